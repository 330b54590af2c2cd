import PyProof.Rows.All
import Wide.All
import OpenK.AllK
import Wide.FinOn
import PyProof.ExcArgsOwn
import Lean
import PySem.Challenge.RW_xw0211_01
open PySem PySem.W PyProof.Rows PySem.Calls PySem.Spec
set_option Elab.async false
set_option maxRecDepth 1000000
set_option maxHeartbeats 0
set_option linter.unusedSimpArgs false
set_option linter.unusedVariables false
namespace Mine
local macro_rules | `(tactic| walk_at "call ref") => `(tactic| k_extra "mine call ref")
local macro_rules | `(tactic| walk_at "getMethod type:Exception") => `(tactic| k_extra "mine getMethod type:Exception")
local macro_rules | `(tactic| walk_at "call builtin:Exception.__init__") => `(tactic| k_extra "mine call builtin:Exception.__init__")
local macro_rules | `(tactic| walk_at "setAttr ref") => `(tactic| k_extra "mine setAttr ref")
local macro_rules | `(tactic| walk_at "exec While") => `(tactic| k_extra "mine exec While")
local macro_rules | `(tactic| walk_at "exec While Compare") => `(tactic| k_extra "mine exec While Compare")
local macro_rules | `(tactic| walk_at "exec While Compare cons nil") => `(tactic| k_extra "mine exec While Compare cons nil")
local macro_rules | `(tactic| walk_at "exec While BoolOp") => `(tactic| k_extra "mine exec While BoolOp")
local macro_rules | `(tactic| walk_at "subscriptTail") => `(tactic| k_extra "mine subscriptTail")
local macro_rules | `(tactic| walk_at "WhlIf") => `(tactic| k_extra "mine WhlIf")
local macro_rules | `(tactic| walk_at "exec Raise some none") => `(tactic| k_extra "mine exec Raise some none")
local macro_rules | `(tactic| walk_at "RaisF") => `(tactic| k_extra "mine RaisF")
local macro_rules | `(tactic| walk_at "leaving ref") => `(tactic| k_extra "mine leaving ref")
local macro_rules | `(tactic| walk_at "compareOp In str ref") => `(tactic| k_extra "mine compareOp In str ref")
local macro_rules | `(tactic| walk_at "compareOp NotIn str ref") => `(tactic| k_extra "mine compareOp NotIn str ref")
local macro_rules | `(tactic| walk_at "compareOp Eq ref ref") => `(tactic| k_extra "mine compareOp Eq ref ref")
local macro_rules | `(tactic| walk_at "eval ListComp") => `(tactic| k_extra "mine eval ListComp")
local macro_rules | `(tactic| walk_at "CompSrc") => `(tactic| k_extra "mine CompSrc")
local macro_rules | `(tactic| walk_at "noteFrame ref") => `(tactic| k_extra "mine noteFrame ref")
local macro_rules | `(tactic| walk_at "getAttr ref") => `(tactic| k_extra "mine getAttr ref")
local macro_rules | `(tactic| walk_at "binaryOp Add ref ref") => `(tactic| k_extra "mine binaryOp Add ref ref")
local macro_rules | `(tactic| walk_at "CompEnd") => `(tactic| k_extra "mine CompEnd")
local macro_rules | `(tactic| walk_at "call builtin:str.split") => `(tactic| k_extra "mine call builtin:str.split")
local macro_rules | `(tactic| walk_at "compareOp In str str") => `(tactic| k_extra "mine compareOp In str str")
local macro_rules | `(tactic| walk_at "binaryOp FloorDiv int int") => `(tactic| k_extra "mine binaryOp FloorDiv int int")
local macro_rules | `(tactic| walk_at "binaryOp Mult int int") => `(tactic| k_extra "mine binaryOp Mult int int")
local macro_rules | `(tactic| walk_at "call builtin:len") => `(tactic| k_extra "mine call builtin:len")
local macro_rules | `(tactic| walk_at "binaryOp Add str str") => `(tactic| k_extra "mine binaryOp Add str str")
local macro_rules | `(tactic| walk_at "UnrEndW") => `(tactic| k_extra "mine UnrEndW")
local macro_rules | `(tactic| walk_at "exec For Tuple Call cons nil") => `(tactic| k_extra "mine exec For Tuple Call cons nil")
local macro_rules | `(tactic| walk_at "call type:enumerate") => `(tactic| k_extra "mine call type:enumerate")
local macro_rules | `(tactic| walk_at "eval IfExp") => `(tactic| k_extra "mine eval IfExp")
local macro_rules | `(tactic| walk_at "exec Assign cons ListComp") => `(tactic| k_extra "mine exec Assign cons ListComp")
local macro_rules | `(tactic| walk_at "compareOp NotEq ref ref") => `(tactic| k_extra "mine compareOp NotEq ref ref")
local macro_rules | `(tactic| walk_at "ite") => `(tactic| k_extra "mine ite")
local macro_rules | `(tactic| walk_at "exec For Name Name cons nil") => `(tactic| k_extra "mine exec For Name Name cons nil")
local macro_rules | `(tactic| walk_at "pyIter ref") => `(tactic| k_extra "mine pyIter ref")
local macro_rules | `(tactic| walk_at "binaryOp Mult ref int") => `(tactic| k_extra "mine binaryOp Mult ref int")
local macro_rules | `(tactic| walk_at "exec For Name Call cons nil") => `(tactic| k_extra "mine exec For Name Call cons nil")
local macro_rules | `(tactic| walk_at "UnrEnd") => `(tactic| k_extra "mine UnrEnd")
local macro_rules | `(tactic| k_all) => `(tactic| k_extra "mine k_all")
local macro_rules | `(tactic| k_room) => `(tactic| k_extra "mine k_room")
local macro_rules | `(tactic| k_units) => `(tactic| k_extra "mine k_units")
local macro_rules | `(tactic| units_room) => `(tactic| k_extra "mine units_room")
local macro_rules | `(tactic| k_qdec) => `(tactic| decide +kernel)
-- V1
/-- parts of the given text, by their places -/
def nthS : List Stmt → Nat → Stmt
  | [], _ => .Pass ⟨0, 0, 0, 0⟩
  | s :: _, 0 => s
  | _ :: r, n + 1 => nthS r n
def fB : Stmt → List Stmt
  | .FunctionDef _ _ b _ _ _ _ _ _ _ => b
  | .ClassDef _ _ _ b _ _ _ _ _ _ _ => b
  | _ => []
def fA : Stmt → Arguments
  | .FunctionDef _ a _ _ _ _ _ _ _ _ => a
  | _ => { posonlyargs := [], args := [], vararg := none, kwonlyargs := [], kw_defaults := [], kwarg := none, defaults := [] }
def fS : Stmt → Scope
  | .FunctionDef _ _ _ _ _ _ s _ _ _ => s
  | .ClassDef _ _ _ _ _ _ s _ _ _ _ => s
  | _ => { kind := .function, names := [], isGenerator := false, isCoroutine := false }
def sA (i : Nat) : Stmt := nthS PySem.Challenge.pw_xw0211_01.main.body i
def sC (i j : Nat) : Stmt := nthS (fB (sA i)) j
noncomputable def KV : Params → Frag := by
  refine (?g : (pA0 : Arguments) → (pB0 : List Stmt) → (pS0 : Scope) → (pA6 : Arguments) → (pB6 : List Stmt) → (pS6 : Scope) → (pA7 : Arguments) → (pB7 : List Stmt) → (pS7 : Scope) → (pA8 : Arguments) → (pB8 : List Stmt) → (pS8 : Scope) → (pA9 : Arguments) → (pB9 : List Stmt) → (pS9 : Scope) → (pA10 : Arguments) → (pB10 : List Stmt) → (pS10 : Scope) → (pA12_0 : Arguments) → (pB12_0 : List Stmt) → (pS12_0 : Scope) → (pA22_0 : Arguments) → (pB22_0 : List Stmt) → (pS22_0 : Scope) → (pA22_1 : Arguments) → (pB22_1 : List Stmt) → (pS22_1 : Scope) → (pA22_2 : Arguments) → (pB22_2 : List Stmt) → (pA22_3 : Arguments) → (pB22_3 : List Stmt) → (pS22_3 : Scope) → (pA23_0 : Arguments) → (pB23_0 : List Stmt) → (pS23_0 : Scope) → (pA23_1 : Arguments) → (pB23_1 : List Stmt) → (pS23_1 : Scope) → (pA23_2 : Arguments) → (pB23_2 : List Stmt) → (pS23_2 : Scope) → (pA23_3 : Arguments) → (pB23_3 : List Stmt) → (pS23_3 : Scope) → (pA23_4 : Arguments) → (pB23_4 : List Stmt) → (pS23_4 : Scope) → (pA23_5 : Arguments) → (pB23_5 : List Stmt) → (pS23_5 : Scope) → (pA23_6 : Arguments) → (pB23_6 : List Stmt) → (pS23_6 : Scope) → (pA23_7 : Arguments) → (pB23_7 : List Stmt) → (pS23_7 : Scope) → (pA23_8 : Arguments) → (pB23_8 : List Stmt) → (pS23_8 : Scope) → (pA23_9 : Arguments) → (pB23_9 : List Stmt) → (pS23_9 : Scope) → (pA23_10 : Arguments) → (pB23_10 : List Stmt) → (pS23_10 : Scope) → (pA23_11 : Arguments) → (pB23_11 : List Stmt) → (pS23_11 : Scope) → (pA23_12 : Arguments) → (pB23_12 : List Stmt) → (pS23_12 : Scope) → (pA23_13 : Arguments) → (pB23_13 : List Stmt) → (pS23_13 : Scope) → (pA23_14 : Arguments) → (pB23_14 : List Stmt) → (pS23_14 : Scope) → (pA24 : Arguments) → (pB24 : List Stmt) → (pS24 : Scope) → (pA26 : Arguments) → (pB26 : List Stmt) → (pS26 : Scope) → (pA27 : Arguments) → (pB27 : List Stmt) → (pS27 : Scope) → (pA28 : Arguments) → (pB28 : List Stmt) → (pS28 : Scope) → (pA29 : Arguments) → (pB29 : List Stmt) → (pS29 : Scope) → (pA30 : Arguments) → (pB30 : List Stmt) → (pS30 : Scope) → (pA31 : Arguments) → (pB31 : List Stmt) → (pS31 : Scope) → (pA32 : Arguments) → (pB32 : List Stmt) → (pS32 : Scope) → (pA33 : Arguments) → (pB33 : List Stmt) → (pS33 : Scope) → (pA34 : Arguments) → (pB34 : List Stmt) → (pS34 : Scope) → (pA35 : Arguments) → (pB35 : List Stmt) → (pS35 : Scope) → pA0 = fA (sA 0) → pB0 = fB (sA 0) → pS0 = fS (sA 0) → pA6 = fA (sA 6) → pB6 = fB (sA 6) → pS6 = fS (sA 6) → pA7 = fA (sA 7) → pB7 = fB (sA 7) → pS7 = fS (sA 7) → pA8 = fA (sA 8) → pB8 = fB (sA 8) → pS8 = fS (sA 8) → pA9 = fA (sA 9) → pB9 = fB (sA 9) → pS9 = fS (sA 9) → pA10 = fA (sA 10) → pB10 = fB (sA 10) → pS10 = fS (sA 10) → pA12_0 = fA (sC 12 0) → pB12_0 = fB (sC 12 0) → pS12_0 = fS (sC 12 0) → pA22_0 = fA (sC 22 0) → pB22_0 = fB (sC 22 0) → pS22_0 = fS (sC 22 0) → pA22_1 = fA (sC 22 1) → pB22_1 = fB (sC 22 1) → pS22_1 = fS (sC 22 1) → pA22_2 = fA (sC 22 2) → pB22_2 = fB (sC 22 2) → pA22_3 = fA (sC 22 3) → pB22_3 = fB (sC 22 3) → pS22_3 = fS (sC 22 3) → pA23_0 = fA (sC 23 0) → pB23_0 = fB (sC 23 0) → pS23_0 = fS (sC 23 0) → pA23_1 = fA (sC 23 1) → pB23_1 = fB (sC 23 1) → pS23_1 = fS (sC 23 1) → pA23_2 = fA (sC 23 2) → pB23_2 = fB (sC 23 2) → pS23_2 = fS (sC 23 2) → pA23_3 = fA (sC 23 3) → pB23_3 = fB (sC 23 3) → pS23_3 = fS (sC 23 3) → pA23_4 = fA (sC 23 4) → pB23_4 = fB (sC 23 4) → pS23_4 = fS (sC 23 4) → pA23_5 = fA (sC 23 5) → pB23_5 = fB (sC 23 5) → pS23_5 = fS (sC 23 5) → pA23_6 = fA (sC 23 6) → pB23_6 = fB (sC 23 6) → pS23_6 = fS (sC 23 6) → pA23_7 = fA (sC 23 7) → pB23_7 = fB (sC 23 7) → pS23_7 = fS (sC 23 7) → pA23_8 = fA (sC 23 8) → pB23_8 = fB (sC 23 8) → pS23_8 = fS (sC 23 8) → pA23_9 = fA (sC 23 9) → pB23_9 = fB (sC 23 9) → pS23_9 = fS (sC 23 9) → pA23_10 = fA (sC 23 10) → pB23_10 = fB (sC 23 10) → pS23_10 = fS (sC 23 10) → pA23_11 = fA (sC 23 11) → pB23_11 = fB (sC 23 11) → pS23_11 = fS (sC 23 11) → pA23_12 = fA (sC 23 12) → pB23_12 = fB (sC 23 12) → pS23_12 = fS (sC 23 12) → pA23_13 = fA (sC 23 13) → pB23_13 = fB (sC 23 13) → pS23_13 = fS (sC 23 13) → pA23_14 = fA (sC 23 14) → pB23_14 = fB (sC 23 14) → pS23_14 = fS (sC 23 14) → pA24 = fA (sA 24) → pB24 = fB (sA 24) → pS24 = fS (sA 24) → pA26 = fA (sA 26) → pB26 = fB (sA 26) → pS26 = fS (sA 26) → pA27 = fA (sA 27) → pB27 = fB (sA 27) → pS27 = fS (sA 27) → pA28 = fA (sA 28) → pB28 = fB (sA 28) → pS28 = fS (sA 28) → pA29 = fA (sA 29) → pB29 = fB (sA 29) → pS29 = fS (sA 29) → pA30 = fA (sA 30) → pB30 = fB (sA 30) → pS30 = fS (sA 30) → pA31 = fA (sA 31) → pB31 = fB (sA 31) → pS31 = fS (sA 31) → pA32 = fA (sA 32) → pB32 = fB (sA 32) → pS32 = fS (sA 32) → pA33 = fA (sA 33) → pB33 = fB (sA 33) → pS33 = fS (sA 33) → pA34 = fA (sA 34) → pB34 = fB (sA 34) → pS34 = fS (sA 34) → pA35 = fA (sA 35) → pB35 = fB (sA 35) → pS35 = fS (sA 35) → Params → Frag) ?pA0 ?pB0 ?pS0 ?pA6 ?pB6 ?pS6 ?pA7 ?pB7 ?pS7 ?pA8 ?pB8 ?pS8 ?pA9 ?pB9 ?pS9 ?pA10 ?pB10 ?pS10 ?pA12_0 ?pB12_0 ?pS12_0 ?pA22_0 ?pB22_0 ?pS22_0 ?pA22_1 ?pB22_1 ?pS22_1 ?pA22_2 ?pB22_2 ?pA22_3 ?pB22_3 ?pS22_3 ?pA23_0 ?pB23_0 ?pS23_0 ?pA23_1 ?pB23_1 ?pS23_1 ?pA23_2 ?pB23_2 ?pS23_2 ?pA23_3 ?pB23_3 ?pS23_3 ?pA23_4 ?pB23_4 ?pS23_4 ?pA23_5 ?pB23_5 ?pS23_5 ?pA23_6 ?pB23_6 ?pS23_6 ?pA23_7 ?pB23_7 ?pS23_7 ?pA23_8 ?pB23_8 ?pS23_8 ?pA23_9 ?pB23_9 ?pS23_9 ?pA23_10 ?pB23_10 ?pS23_10 ?pA23_11 ?pB23_11 ?pS23_11 ?pA23_12 ?pB23_12 ?pS23_12 ?pA23_13 ?pB23_13 ?pS23_13 ?pA23_14 ?pB23_14 ?pS23_14 ?pA24 ?pB24 ?pS24 ?pA26 ?pB26 ?pS26 ?pA27 ?pB27 ?pS27 ?pA28 ?pB28 ?pS28 ?pA29 ?pB29 ?pS29 ?pA30 ?pB30 ?pS30 ?pA31 ?pB31 ?pS31 ?pA32 ?pB32 ?pS32 ?pA33 ?pB33 ?pS33 ?pA34 ?pB34 ?pS34 ?pA35 ?pB35 ?pS35 ?hpA0 ?hpB0 ?hpS0 ?hpA6 ?hpB6 ?hpS6 ?hpA7 ?hpB7 ?hpS7 ?hpA8 ?hpB8 ?hpS8 ?hpA9 ?hpB9 ?hpS9 ?hpA10 ?hpB10 ?hpS10 ?hpA12_0 ?hpB12_0 ?hpS12_0 ?hpA22_0 ?hpB22_0 ?hpS22_0 ?hpA22_1 ?hpB22_1 ?hpS22_1 ?hpA22_2 ?hpB22_2 ?hpA22_3 ?hpB22_3 ?hpS22_3 ?hpA23_0 ?hpB23_0 ?hpS23_0 ?hpA23_1 ?hpB23_1 ?hpS23_1 ?hpA23_2 ?hpB23_2 ?hpS23_2 ?hpA23_3 ?hpB23_3 ?hpS23_3 ?hpA23_4 ?hpB23_4 ?hpS23_4 ?hpA23_5 ?hpB23_5 ?hpS23_5 ?hpA23_6 ?hpB23_6 ?hpS23_6 ?hpA23_7 ?hpB23_7 ?hpS23_7 ?hpA23_8 ?hpB23_8 ?hpS23_8 ?hpA23_9 ?hpB23_9 ?hpS23_9 ?hpA23_10 ?hpB23_10 ?hpS23_10 ?hpA23_11 ?hpB23_11 ?hpS23_11 ?hpA23_12 ?hpB23_12 ?hpS23_12 ?hpA23_13 ?hpB23_13 ?hpS23_13 ?hpA23_14 ?hpB23_14 ?hpS23_14 ?hpA24 ?hpB24 ?hpS24 ?hpA26 ?hpB26 ?hpS26 ?hpA27 ?hpB27 ?hpS27 ?hpA28 ?hpB28 ?hpS28 ?hpA29 ?hpB29 ?hpS29 ?hpA30 ?hpB30 ?hpS30 ?hpA31 ?hpB31 ?hpS31 ?hpA32 ?hpB32 ?hpS32 ?hpA33 ?hpB33 ?hpS33 ?hpA34 ?hpB34 ?hpS34 ?hpA35 ?hpB35 ?hpS35
  case hpA0 => (symm; dsimp only [sA, sC, fA, fB, fS, nthS, PySem.Challenge.pw_xw0211_01]; exact rfl)
  case hpB0 => (symm; dsimp only [sA, sC, fA, fB, fS, nthS, PySem.Challenge.pw_xw0211_01]; exact rfl)
  case hpS0 => (symm; dsimp only [sA, sC, fA, fB, fS, nthS, PySem.Challenge.pw_xw0211_01]; exact rfl)
  case hpA6 => (symm; dsimp only [sA, sC, fA, fB, fS, nthS, PySem.Challenge.pw_xw0211_01]; exact rfl)
  case hpB6 => (symm; dsimp only [sA, sC, fA, fB, fS, nthS, PySem.Challenge.pw_xw0211_01]; exact rfl)
  case hpS6 => (symm; dsimp only [sA, sC, fA, fB, fS, nthS, PySem.Challenge.pw_xw0211_01]; exact rfl)
  case hpA7 => (symm; dsimp only [sA, sC, fA, fB, fS, nthS, PySem.Challenge.pw_xw0211_01]; exact rfl)
  case hpB7 => (symm; dsimp only [sA, sC, fA, fB, fS, nthS, PySem.Challenge.pw_xw0211_01]; exact rfl)
  case hpS7 => (symm; dsimp only [sA, sC, fA, fB, fS, nthS, PySem.Challenge.pw_xw0211_01]; exact rfl)
  case hpA8 => (symm; dsimp only [sA, sC, fA, fB, fS, nthS, PySem.Challenge.pw_xw0211_01]; exact rfl)
  case hpB8 => (symm; dsimp only [sA, sC, fA, fB, fS, nthS, PySem.Challenge.pw_xw0211_01]; exact rfl)
  case hpS8 => (symm; dsimp only [sA, sC, fA, fB, fS, nthS, PySem.Challenge.pw_xw0211_01]; exact rfl)
  case hpA9 => (symm; dsimp only [sA, sC, fA, fB, fS, nthS, PySem.Challenge.pw_xw0211_01]; exact rfl)
  case hpB9 => (symm; dsimp only [sA, sC, fA, fB, fS, nthS, PySem.Challenge.pw_xw0211_01]; exact rfl)
  case hpS9 => (symm; dsimp only [sA, sC, fA, fB, fS, nthS, PySem.Challenge.pw_xw0211_01]; exact rfl)
  case hpA10 => (symm; dsimp only [sA, sC, fA, fB, fS, nthS, PySem.Challenge.pw_xw0211_01]; exact rfl)
  case hpB10 => (symm; dsimp only [sA, sC, fA, fB, fS, nthS, PySem.Challenge.pw_xw0211_01]; exact rfl)
  case hpS10 => (symm; dsimp only [sA, sC, fA, fB, fS, nthS, PySem.Challenge.pw_xw0211_01]; exact rfl)
  case hpA12_0 => (symm; dsimp only [sA, sC, fA, fB, fS, nthS, PySem.Challenge.pw_xw0211_01]; exact rfl)
  case hpB12_0 => (symm; dsimp only [sA, sC, fA, fB, fS, nthS, PySem.Challenge.pw_xw0211_01]; exact rfl)
  case hpS12_0 => (symm; dsimp only [sA, sC, fA, fB, fS, nthS, PySem.Challenge.pw_xw0211_01]; exact rfl)
  case hpA22_0 => (symm; dsimp only [sA, sC, fA, fB, fS, nthS, PySem.Challenge.pw_xw0211_01]; exact rfl)
  case hpB22_0 => (symm; dsimp only [sA, sC, fA, fB, fS, nthS, PySem.Challenge.pw_xw0211_01]; exact rfl)
  case hpS22_0 => (symm; dsimp only [sA, sC, fA, fB, fS, nthS, PySem.Challenge.pw_xw0211_01]; exact rfl)
  case hpA22_1 => (symm; dsimp only [sA, sC, fA, fB, fS, nthS, PySem.Challenge.pw_xw0211_01]; exact rfl)
  case hpB22_1 => (symm; dsimp only [sA, sC, fA, fB, fS, nthS, PySem.Challenge.pw_xw0211_01]; exact rfl)
  case hpS22_1 => (symm; dsimp only [sA, sC, fA, fB, fS, nthS, PySem.Challenge.pw_xw0211_01]; exact rfl)
  case hpA22_2 => (symm; dsimp only [sA, sC, fA, fB, fS, nthS, PySem.Challenge.pw_xw0211_01]; exact rfl)
  case hpB22_2 => (symm; dsimp only [sA, sC, fA, fB, fS, nthS, PySem.Challenge.pw_xw0211_01]; exact rfl)
  case hpA22_3 => (symm; dsimp only [sA, sC, fA, fB, fS, nthS, PySem.Challenge.pw_xw0211_01]; exact rfl)
  case hpB22_3 => (symm; dsimp only [sA, sC, fA, fB, fS, nthS, PySem.Challenge.pw_xw0211_01]; exact rfl)
  case hpS22_3 => (symm; dsimp only [sA, sC, fA, fB, fS, nthS, PySem.Challenge.pw_xw0211_01]; exact rfl)
  case hpA23_0 => (symm; dsimp only [sA, sC, fA, fB, fS, nthS, PySem.Challenge.pw_xw0211_01]; exact rfl)
  case hpB23_0 => (symm; dsimp only [sA, sC, fA, fB, fS, nthS, PySem.Challenge.pw_xw0211_01]; exact rfl)
  case hpS23_0 => (symm; dsimp only [sA, sC, fA, fB, fS, nthS, PySem.Challenge.pw_xw0211_01]; exact rfl)
  case hpA23_1 => (symm; dsimp only [sA, sC, fA, fB, fS, nthS, PySem.Challenge.pw_xw0211_01]; exact rfl)
  case hpB23_1 => (symm; dsimp only [sA, sC, fA, fB, fS, nthS, PySem.Challenge.pw_xw0211_01]; exact rfl)
  case hpS23_1 => (symm; dsimp only [sA, sC, fA, fB, fS, nthS, PySem.Challenge.pw_xw0211_01]; exact rfl)
  case hpA23_2 => (symm; dsimp only [sA, sC, fA, fB, fS, nthS, PySem.Challenge.pw_xw0211_01]; exact rfl)
  case hpB23_2 => (symm; dsimp only [sA, sC, fA, fB, fS, nthS, PySem.Challenge.pw_xw0211_01]; exact rfl)
  case hpS23_2 => (symm; dsimp only [sA, sC, fA, fB, fS, nthS, PySem.Challenge.pw_xw0211_01]; exact rfl)
  case hpA23_3 => (symm; dsimp only [sA, sC, fA, fB, fS, nthS, PySem.Challenge.pw_xw0211_01]; exact rfl)
  case hpB23_3 => (symm; dsimp only [sA, sC, fA, fB, fS, nthS, PySem.Challenge.pw_xw0211_01]; exact rfl)
  case hpS23_3 => (symm; dsimp only [sA, sC, fA, fB, fS, nthS, PySem.Challenge.pw_xw0211_01]; exact rfl)
  case hpA23_4 => (symm; dsimp only [sA, sC, fA, fB, fS, nthS, PySem.Challenge.pw_xw0211_01]; exact rfl)
  case hpB23_4 => (symm; dsimp only [sA, sC, fA, fB, fS, nthS, PySem.Challenge.pw_xw0211_01]; exact rfl)
  case hpS23_4 => (symm; dsimp only [sA, sC, fA, fB, fS, nthS, PySem.Challenge.pw_xw0211_01]; exact rfl)
  case hpA23_5 => (symm; dsimp only [sA, sC, fA, fB, fS, nthS, PySem.Challenge.pw_xw0211_01]; exact rfl)
  case hpB23_5 => (symm; dsimp only [sA, sC, fA, fB, fS, nthS, PySem.Challenge.pw_xw0211_01]; exact rfl)
  case hpS23_5 => (symm; dsimp only [sA, sC, fA, fB, fS, nthS, PySem.Challenge.pw_xw0211_01]; exact rfl)
  case hpA23_6 => (symm; dsimp only [sA, sC, fA, fB, fS, nthS, PySem.Challenge.pw_xw0211_01]; exact rfl)
  case hpB23_6 => (symm; dsimp only [sA, sC, fA, fB, fS, nthS, PySem.Challenge.pw_xw0211_01]; exact rfl)
  case hpS23_6 => (symm; dsimp only [sA, sC, fA, fB, fS, nthS, PySem.Challenge.pw_xw0211_01]; exact rfl)
  case hpA23_7 => (symm; dsimp only [sA, sC, fA, fB, fS, nthS, PySem.Challenge.pw_xw0211_01]; exact rfl)
  case hpB23_7 => (symm; dsimp only [sA, sC, fA, fB, fS, nthS, PySem.Challenge.pw_xw0211_01]; exact rfl)
  case hpS23_7 => (symm; dsimp only [sA, sC, fA, fB, fS, nthS, PySem.Challenge.pw_xw0211_01]; exact rfl)
  case hpA23_8 => (symm; dsimp only [sA, sC, fA, fB, fS, nthS, PySem.Challenge.pw_xw0211_01]; exact rfl)
  case hpB23_8 => (symm; dsimp only [sA, sC, fA, fB, fS, nthS, PySem.Challenge.pw_xw0211_01]; exact rfl)
  case hpS23_8 => (symm; dsimp only [sA, sC, fA, fB, fS, nthS, PySem.Challenge.pw_xw0211_01]; exact rfl)
  case hpA23_9 => (symm; dsimp only [sA, sC, fA, fB, fS, nthS, PySem.Challenge.pw_xw0211_01]; exact rfl)
  case hpB23_9 => (symm; dsimp only [sA, sC, fA, fB, fS, nthS, PySem.Challenge.pw_xw0211_01]; exact rfl)
  case hpS23_9 => (symm; dsimp only [sA, sC, fA, fB, fS, nthS, PySem.Challenge.pw_xw0211_01]; exact rfl)
  case hpA23_10 => (symm; dsimp only [sA, sC, fA, fB, fS, nthS, PySem.Challenge.pw_xw0211_01]; exact rfl)
  case hpB23_10 => (symm; dsimp only [sA, sC, fA, fB, fS, nthS, PySem.Challenge.pw_xw0211_01]; exact rfl)
  case hpS23_10 => (symm; dsimp only [sA, sC, fA, fB, fS, nthS, PySem.Challenge.pw_xw0211_01]; exact rfl)
  case hpA23_11 => (symm; dsimp only [sA, sC, fA, fB, fS, nthS, PySem.Challenge.pw_xw0211_01]; exact rfl)
  case hpB23_11 => (symm; dsimp only [sA, sC, fA, fB, fS, nthS, PySem.Challenge.pw_xw0211_01]; exact rfl)
  case hpS23_11 => (symm; dsimp only [sA, sC, fA, fB, fS, nthS, PySem.Challenge.pw_xw0211_01]; exact rfl)
  case hpA23_12 => (symm; dsimp only [sA, sC, fA, fB, fS, nthS, PySem.Challenge.pw_xw0211_01]; exact rfl)
  case hpB23_12 => (symm; dsimp only [sA, sC, fA, fB, fS, nthS, PySem.Challenge.pw_xw0211_01]; exact rfl)
  case hpS23_12 => (symm; dsimp only [sA, sC, fA, fB, fS, nthS, PySem.Challenge.pw_xw0211_01]; exact rfl)
  case hpA23_13 => (symm; dsimp only [sA, sC, fA, fB, fS, nthS, PySem.Challenge.pw_xw0211_01]; exact rfl)
  case hpB23_13 => (symm; dsimp only [sA, sC, fA, fB, fS, nthS, PySem.Challenge.pw_xw0211_01]; exact rfl)
  case hpS23_13 => (symm; dsimp only [sA, sC, fA, fB, fS, nthS, PySem.Challenge.pw_xw0211_01]; exact rfl)
  case hpA23_14 => (symm; dsimp only [sA, sC, fA, fB, fS, nthS, PySem.Challenge.pw_xw0211_01]; exact rfl)
  case hpB23_14 => (symm; dsimp only [sA, sC, fA, fB, fS, nthS, PySem.Challenge.pw_xw0211_01]; exact rfl)
  case hpS23_14 => (symm; dsimp only [sA, sC, fA, fB, fS, nthS, PySem.Challenge.pw_xw0211_01]; exact rfl)
  case hpA24 => (symm; dsimp only [sA, sC, fA, fB, fS, nthS, PySem.Challenge.pw_xw0211_01]; exact rfl)
  case hpB24 => (symm; dsimp only [sA, sC, fA, fB, fS, nthS, PySem.Challenge.pw_xw0211_01]; exact rfl)
  case hpS24 => (symm; dsimp only [sA, sC, fA, fB, fS, nthS, PySem.Challenge.pw_xw0211_01]; exact rfl)
  case hpA26 => (symm; dsimp only [sA, sC, fA, fB, fS, nthS, PySem.Challenge.pw_xw0211_01]; exact rfl)
  case hpB26 => (symm; dsimp only [sA, sC, fA, fB, fS, nthS, PySem.Challenge.pw_xw0211_01]; exact rfl)
  case hpS26 => (symm; dsimp only [sA, sC, fA, fB, fS, nthS, PySem.Challenge.pw_xw0211_01]; exact rfl)
  case hpA27 => (symm; dsimp only [sA, sC, fA, fB, fS, nthS, PySem.Challenge.pw_xw0211_01]; exact rfl)
  case hpB27 => (symm; dsimp only [sA, sC, fA, fB, fS, nthS, PySem.Challenge.pw_xw0211_01]; exact rfl)
  case hpS27 => (symm; dsimp only [sA, sC, fA, fB, fS, nthS, PySem.Challenge.pw_xw0211_01]; exact rfl)
  case hpA28 => (symm; dsimp only [sA, sC, fA, fB, fS, nthS, PySem.Challenge.pw_xw0211_01]; exact rfl)
  case hpB28 => (symm; dsimp only [sA, sC, fA, fB, fS, nthS, PySem.Challenge.pw_xw0211_01]; exact rfl)
  case hpS28 => (symm; dsimp only [sA, sC, fA, fB, fS, nthS, PySem.Challenge.pw_xw0211_01]; exact rfl)
  case hpA29 => (symm; dsimp only [sA, sC, fA, fB, fS, nthS, PySem.Challenge.pw_xw0211_01]; exact rfl)
  case hpB29 => (symm; dsimp only [sA, sC, fA, fB, fS, nthS, PySem.Challenge.pw_xw0211_01]; exact rfl)
  case hpS29 => (symm; dsimp only [sA, sC, fA, fB, fS, nthS, PySem.Challenge.pw_xw0211_01]; exact rfl)
  case hpA30 => (symm; dsimp only [sA, sC, fA, fB, fS, nthS, PySem.Challenge.pw_xw0211_01]; exact rfl)
  case hpB30 => (symm; dsimp only [sA, sC, fA, fB, fS, nthS, PySem.Challenge.pw_xw0211_01]; exact rfl)
  case hpS30 => (symm; dsimp only [sA, sC, fA, fB, fS, nthS, PySem.Challenge.pw_xw0211_01]; exact rfl)
  case hpA31 => (symm; dsimp only [sA, sC, fA, fB, fS, nthS, PySem.Challenge.pw_xw0211_01]; exact rfl)
  case hpB31 => (symm; dsimp only [sA, sC, fA, fB, fS, nthS, PySem.Challenge.pw_xw0211_01]; exact rfl)
  case hpS31 => (symm; dsimp only [sA, sC, fA, fB, fS, nthS, PySem.Challenge.pw_xw0211_01]; exact rfl)
  case hpA32 => (symm; dsimp only [sA, sC, fA, fB, fS, nthS, PySem.Challenge.pw_xw0211_01]; exact rfl)
  case hpB32 => (symm; dsimp only [sA, sC, fA, fB, fS, nthS, PySem.Challenge.pw_xw0211_01]; exact rfl)
  case hpS32 => (symm; dsimp only [sA, sC, fA, fB, fS, nthS, PySem.Challenge.pw_xw0211_01]; exact rfl)
  case hpA33 => (symm; dsimp only [sA, sC, fA, fB, fS, nthS, PySem.Challenge.pw_xw0211_01]; exact rfl)
  case hpB33 => (symm; dsimp only [sA, sC, fA, fB, fS, nthS, PySem.Challenge.pw_xw0211_01]; exact rfl)
  case hpS33 => (symm; dsimp only [sA, sC, fA, fB, fS, nthS, PySem.Challenge.pw_xw0211_01]; exact rfl)
  case hpA34 => (symm; dsimp only [sA, sC, fA, fB, fS, nthS, PySem.Challenge.pw_xw0211_01]; exact rfl)
  case hpB34 => (symm; dsimp only [sA, sC, fA, fB, fS, nthS, PySem.Challenge.pw_xw0211_01]; exact rfl)
  case hpS34 => (symm; dsimp only [sA, sC, fA, fB, fS, nthS, PySem.Challenge.pw_xw0211_01]; exact rfl)
  case hpA35 => (symm; dsimp only [sA, sC, fA, fB, fS, nthS, PySem.Challenge.pw_xw0211_01]; exact rfl)
  case hpB35 => (symm; dsimp only [sA, sC, fA, fB, fS, nthS, PySem.Challenge.pw_xw0211_01]; exact rfl)
  case hpS35 => (symm; dsimp only [sA, sC, fA, fB, fS, nthS, PySem.Challenge.pw_xw0211_01]; exact rfl)
  case g => exact fun pA0 pB0 pS0 pA6 pB6 pS6 pA7 pB7 pS7 pA8 pB8 pS8 pA9 pB9 pS9 pA10 pB10 pS10 pA12_0 pB12_0 pS12_0 pA22_0 pB22_0 pS22_0 pA22_1 pB22_1 pS22_1 pA22_2 pB22_2 pA22_3 pB22_3 pS22_3 pA23_0 pB23_0 pS23_0 pA23_1 pB23_1 pS23_1 pA23_2 pB23_2 pS23_2 pA23_3 pB23_3 pS23_3 pA23_4 pB23_4 pS23_4 pA23_5 pB23_5 pS23_5 pA23_6 pB23_6 pS23_6 pA23_7 pB23_7 pS23_7 pA23_8 pB23_8 pS23_8 pA23_9 pB23_9 pS23_9 pA23_10 pB23_10 pS23_10 pA23_11 pB23_11 pS23_11 pA23_12 pB23_12 pS23_12 pA23_13 pB23_13 pS23_13 pA23_14 pB23_14 pS23_14 pA24 pB24 pS24 pA26 pB26 pS26 pA27 pB27 pS27 pA28 pB28 pS28 pA29 pB29 pS29 pA30 pB30 pS30 pA31 pB31 pS31 pA32 pB32 pS32 pA33 pB33 pS33 pA34 pB34 pS34 pA35 pB35 pS35 _ _ _ _ _ _ _ _ _ _ _ _ _ _ _ _ _ _ _ _ _ _ _ _ _ _ _ _ _ _ _ _ _ _ _ _ _ _ _ _ _ _ _ _ _ _ _ _ _ _ _ _ _ _ _ _ _ _ _ _ _ _ _ _ _ _ _ _ _ _ _ _ _ _ _ _ _ _ _ _ _ _ _ _ _ _ _ _ _ _ _ _ _ _ _ _ _ _ _ _ _ _ _ _ _ _ _ _ _ _ =>
    fun P =>
    ((nat_lit 2,
      { cls := PySem.Value.none,
        data :=
          PySem.Data.dict
            #[{ hash := PySem.PyData.keyHash P (PySem.Str.ofString "type.__subclasses__.Exception.0"),
                key := PySem.Value.str (PySem.Str.ofString "type.__subclasses__.Exception.0") (297 : Nat),
                val := PySem.Value.int (90 : Int) (0 : Nat) },
              { hash := PySem.PyData.keyHash P (PySem.Str.ofString "type.__subclasses__.Exception.n"),
                key := PySem.Value.str (PySem.Str.ofString "type.__subclasses__.Exception.n") (298 : Nat),
                val := PySem.Value.int (1 : Int) (0 : Nat) }]
            (2 : Nat) })) ::
    ((nat_lit 3,
      { cls := PySem.Value.type "dict",
        data :=
          PySem.Data.dict
            #[{ hash := PySem.PyData.keyHash P (PySem.Str.ofString "__name__"),
                key := PySem.Value.str (PySem.Str.ofString "__name__") (165 : Nat),
                val := PySem.Value.str (PySem.Str.ofString "law_xw0211_01") (580 : Nat) },
              { hash := PySem.PyData.keyHash P (PySem.Str.ofString "__doc__"),
                key := PySem.Value.str (PySem.Str.ofString "__doc__") (166 : Nat), val := PySem.Value.none },
              { hash := PySem.PyData.keyHash P (PySem.Str.ofString "__package__"),
                key := PySem.Value.str (PySem.Str.ofString "__package__") (167 : Nat), val := PySem.Value.none },
              { hash := PySem.PyData.keyHash P (PySem.Str.ofString "__loader__"),
                key := PySem.Value.str (PySem.Str.ofString "__loader__") (168 : Nat),
                val := PySem.Value.builtin "__main__.__loader__#opaque" },
              { hash := PySem.PyData.keyHash P (PySem.Str.ofString "__spec__"),
                key := PySem.Value.str (PySem.Str.ofString "__spec__") (169 : Nat), val := PySem.Value.none },
              { hash := PySem.PyData.keyHash P (PySem.Str.ofString "__annotations__"),
                key := PySem.Value.str (PySem.Str.ofString "__annotations__") (170 : Nat),
                val := PySem.Value.ref (6 : Nat) },
              { hash := PySem.PyData.keyHash P (PySem.Str.ofString "__builtins__"),
                key := PySem.Value.str (PySem.Str.ofString "__builtins__") (171 : Nat), val := PySem.Value.ref (4 : Nat) },
              { hash := PySem.PyData.keyHash P (PySem.Str.ofString "__file__"),
                key := PySem.Value.str (PySem.Str.ofString "__file__") (173 : Nat),
                val := PySem.Value.str (PySem.Str.ofString "/claim/cut.py") (172 : Nat) },
              { hash := PySem.PyData.keyHash P (PySem.Str.ofString "__cached__"),
                key := PySem.Value.str (PySem.Str.ofString "__cached__") (174 : Nat), val := PySem.Value.none },
              { hash := PySem.PyData.keyHash P (PySem.Str.ofString "_wall"),
                key := PySem.Value.str (PySem.Str.ofString "_wall") (193 : Nat), val := PySem.Value.ref (21 : Nat) },
              { hash := PySem.PyData.keyHash P (PySem.Str.ofString "SPACES"),
                key := PySem.Value.str (PySem.Str.ofString "SPACES") (197 : Nat),
                val := PySem.Value.str (PySem.Str.ofString " \t\n\x0d") (196 : Nat) },
              { hash := PySem.PyData.keyHash P (PySem.Str.ofString "START_RANGES"),
                key := PySem.Value.str (PySem.Str.ofString "START_RANGES") (222 : Nat), val := PySem.Value.ref (34 : Nat) },
              { hash := PySem.PyData.keyHash P (PySem.Str.ofString "MORE_RANGES"),
                key := PySem.Value.str (PySem.Str.ofString "MORE_RANGES") (229 : Nat), val := PySem.Value.ref (38 : Nat) },
              { hash := PySem.PyData.keyHash P (PySem.Str.ofString "FIRST_BEYOND"),
                key := PySem.Value.str (PySem.Str.ofString "FIRST_BEYOND") (231 : Nat),
                val := PySem.Value.int (128 : Int) (230 : Nat) },
              { hash := PySem.PyData.keyHash P (PySem.Str.ofString "is_in_ranges"),
                key := PySem.Value.str (PySem.Str.ofString "is_in_ranges") (241 : Nat), val := PySem.Value.ref (45 : Nat) },
              { hash := PySem.PyData.keyHash P (PySem.Str.ofString "is_space"),
                key := PySem.Value.str (PySem.Str.ofString "is_space") (248 : Nat), val := PySem.Value.ref (52 : Nat) },
              { hash := PySem.PyData.keyHash P (PySem.Str.ofString "is_small_letter"),
                key := PySem.Value.str (PySem.Str.ofString "is_small_letter") (255 : Nat),
                val := PySem.Value.ref (59 : Nat) },
              { hash := PySem.PyData.keyHash P (PySem.Str.ofString "is_name_start"),
                key := PySem.Value.str (PySem.Str.ofString "is_name_start") (262 : Nat),
                val := PySem.Value.ref (66 : Nat) },
              { hash := PySem.PyData.keyHash P (PySem.Str.ofString "is_name_char"),
                key := PySem.Value.str (PySem.Str.ofString "is_name_char") (269 : Nat), val := PySem.Value.ref (73 : Nat) },
              { hash := PySem.PyData.keyHash P (PySem.Str.ofString "MarkupError"),
                key := PySem.Value.str (PySem.Str.ofString "MarkupError") (300 : Nat), val := PySem.Value.ref (90 : Nat) },
              { hash := PySem.PyData.keyHash P (PySem.Str.ofString "PathFault"),
                key := PySem.Value.str (PySem.Str.ofString "PathFault") (316 : Nat), val := PySem.Value.ref (103 : Nat) },
              { hash := PySem.PyData.keyHash P (PySem.Str.ofString "FIGURES"),
                key := PySem.Value.str (PySem.Str.ofString "FIGURES") (320 : Nat),
                val := PySem.Value.str (PySem.Str.ofString "0123456789") (319 : Nat) },
              { hash := PySem.PyData.keyHash P (PySem.Str.ofString "PAIRS"),
                key := PySem.Value.str (PySem.Str.ofString "PAIRS") (327 : Nat), val := PySem.Value.ref (106 : Nat) },
              { hash := PySem.PyData.keyHash P (PySem.Str.ofString "OPERATORS"),
                key := PySem.Value.str (PySem.Str.ofString "OPERATORS") (339 : Nat), val := PySem.Value.ref (107 : Nat) },
              { hash := PySem.PyData.keyHash P (PySem.Str.ofString "SIGNS"),
                key := PySem.Value.str (PySem.Str.ofString "SIGNS") (349 : Nat), val := PySem.Value.ref (108 : Nat) },
              { hash := PySem.PyData.keyHash P (PySem.Str.ofString "WORD_OPERATORS"),
                key := PySem.Value.str (PySem.Str.ofString "WORD_OPERATORS") (354 : Nat),
                val := PySem.Value.ref (109 : Nat) },
              { hash := PySem.PyData.keyHash P (PySem.Str.ofString "KINDS_OF_NODES"),
                key := PySem.Value.str (PySem.Str.ofString "KINDS_OF_NODES") (359 : Nat),
                val := PySem.Value.ref (110 : Nat) },
              { hash := PySem.PyData.keyHash P (PySem.Str.ofString "BEHIND_NO_OPERAND"),
                key := PySem.Value.str (PySem.Str.ofString "BEHIND_NO_OPERAND") (365 : Nat),
                val := PySem.Value.ref (111 : Nat) },
              { hash := PySem.PyData.keyHash P (PySem.Str.ofString "Word"),
                key := PySem.Value.str (PySem.Str.ofString "Word") (421 : Nat), val := PySem.Value.ref (149 : Nat) },
              { hash := PySem.PyData.keyHash P (PySem.Str.ofString "PathScanner"),
                key := PySem.Value.str (PySem.Str.ofString "PathScanner") (572 : Nat), val := PySem.Value.ref (269 : Nat) },
              { hash := PySem.PyData.keyHash P (PySem.Str.ofString "path_words"),
                key := PySem.Value.str (PySem.Str.ofString "path_words") (579 : Nat), val := PySem.Value.ref (280 : Nat) },
              { hash := PySem.PyData.keyHash P (PySem.Str.ofString "_law_bag"),
                key := PySem.Value.str (PySem.Str.ofString "_law_bag") (590 : Nat), val := PySem.Value.ref (287 : Nat) },
              { hash := PySem.PyData.keyHash P (PySem.Str.ofString "_law_pick"),
                key := PySem.Value.str (PySem.Str.ofString "_law_pick") (599 : Nat), val := PySem.Value.ref (294 : Nat) },
              { hash := PySem.PyData.keyHash P (PySem.Str.ofString "_law_one"),
                key := PySem.Value.str (PySem.Str.ofString "_law_one") (607 : Nat), val := PySem.Value.ref (301 : Nat) },
              { hash := PySem.PyData.keyHash P (PySem.Str.ofString "_law_heard"),
                key := PySem.Value.str (PySem.Str.ofString "_law_heard") (613 : Nat), val := PySem.Value.ref (306 : Nat) },
              { hash := PySem.PyData.keyHash P (PySem.Str.ofString "_law_name"),
                key := PySem.Value.str (PySem.Str.ofString "_law_name") (624 : Nat), val := PySem.Value.ref (313 : Nat) },
              { hash := PySem.PyData.keyHash P (PySem.Str.ofString "_law_row"),
                key := PySem.Value.str (PySem.Str.ofString "_law_row") (634 : Nat), val := PySem.Value.ref (320 : Nat) },
              { hash := PySem.PyData.keyHash P (PySem.Str.ofString "_law_due"),
                key := PySem.Value.str (PySem.Str.ofString "_law_due") (650 : Nat), val := PySem.Value.ref (327 : Nat) },
              { hash := PySem.PyData.keyHash P (PySem.Str.ofString "_law_word"),
                key := PySem.Value.str (PySem.Str.ofString "_law_word") (658 : Nat), val := PySem.Value.ref (334 : Nat) },
              { hash := PySem.PyData.keyHash P (PySem.Str.ofString "_law_right"),
                key := PySem.Value.str (PySem.Str.ofString "_law_right") (668 : Nat), val := PySem.Value.ref (341 : Nat) },
              { hash := PySem.PyData.keyHash P (PySem.Str.ofString "law"),
                key := PySem.Value.str (PySem.Str.ofString "law") (674 : Nat), val := PySem.Value.ref (346 : Nat) }]
            (41 : Nat) })) ::
    ((nat_lit 15, { cls := PySem.Value.type "tuple", data := PySem.Data.seq #[] })) ::
    ((nat_lit 17,
      { cls := PySem.Value.type "tuple", data := PySem.Data.seq #[PySem.Value.str (PySem.Str.ofString "k") (190 : Nat)] })) ::
    ((nat_lit 18, { cls := PySem.Value.type "tuple", data := PySem.Data.seq #[] })) ::
    ((nat_lit 20,
      { cls := PySem.Value.type "code",
        data :=
          PySem.Data.fields
            #[PySem.Value.str (PySem.Str.ofString "_wall") (187 : Nat),
              PySem.Value.str (PySem.Str.ofString "_wall") (188 : Nat),
              PySem.Value.str (PySem.Str.ofString "/claim/cut.py") (189 : Nat), PySem.Value.int (1 : Int) (0 : Nat),
              PySem.Value.int (1 : Int) (0 : Nat), PySem.Value.int (0 : Int) (0 : Nat), PySem.Value.int (0 : Int) (0 : Nat),
              PySem.Value.int (3 : Int) (0 : Nat), PySem.Value.ref (15 : Nat), PySem.Value.bool Bool.true,
              PySem.Value.int (181 : Int) (0 : Nat), PySem.Value.ref (16 : Nat), PySem.Value.none,
              PySem.Value.ref (17 : Nat), PySem.Value.ref (18 : Nat), PySem.Value.ref (19 : Nat),
              PySem.Value.int (191 : Int) (0 : Nat), PySem.Value.int (1 : Int) (0 : Nat),
              PySem.Value.str (PySem.Str.ofString "/claim/cut.py") (192 : Nat)] })) ::
    ((nat_lit 21,
      { cls := PySem.Value.type "function",
        data :=
          PySem.Data.func
            { name := PySem.Str.ofString "_wall", qualname := PySem.Str.ofString "_wall",
              params := pA0, body := PySem.FuncBody.stmts (pB0),
              scope := pS0, globals := (3 : Nat), closure := [], defaults := PySem.Value.none,
              kwdefaults := PySem.Value.none, pyModule := PySem.Value.str (PySem.Str.ofString "__main__") (164 : Nat),
              code := PySem.Value.ref (20 : Nat) } })) ::
    ((nat_lit 22,
      { cls := PySem.Value.type "tuple",
        data := PySem.Data.seq #[PySem.Value.int (192 : Int) (198 : Nat), PySem.Value.int (214 : Int) (199 : Nat)] })) ::
    ((nat_lit 23,
      { cls := PySem.Value.type "tuple",
        data := PySem.Data.seq #[PySem.Value.int (216 : Int) (200 : Nat), PySem.Value.int (246 : Int) (201 : Nat)] })) ::
    ((nat_lit 24,
      { cls := PySem.Value.type "tuple",
        data := PySem.Data.seq #[PySem.Value.int (248 : Int) (202 : Nat), PySem.Value.int (767 : Int) (203 : Nat)] })) ::
    ((nat_lit 25,
      { cls := PySem.Value.type "tuple",
        data := PySem.Data.seq #[PySem.Value.int (880 : Int) (204 : Nat), PySem.Value.int (893 : Int) (205 : Nat)] })) ::
    ((nat_lit 26,
      { cls := PySem.Value.type "tuple",
        data := PySem.Data.seq #[PySem.Value.int (895 : Int) (206 : Nat), PySem.Value.int (8191 : Int) (207 : Nat)] })) ::
    ((nat_lit 27,
      { cls := PySem.Value.type "tuple",
        data := PySem.Data.seq #[PySem.Value.int (8204 : Int) (208 : Nat), PySem.Value.int (8205 : Int) (209 : Nat)] })) ::
    ((nat_lit 28,
      { cls := PySem.Value.type "tuple",
        data := PySem.Data.seq #[PySem.Value.int (8304 : Int) (210 : Nat), PySem.Value.int (8591 : Int) (211 : Nat)] })) ::
    ((nat_lit 29,
      { cls := PySem.Value.type "tuple",
        data := PySem.Data.seq #[PySem.Value.int (11264 : Int) (212 : Nat), PySem.Value.int (12271 : Int) (213 : Nat)] })) ::
    ((nat_lit 30,
      { cls := PySem.Value.type "tuple",
        data := PySem.Data.seq #[PySem.Value.int (12289 : Int) (214 : Nat), PySem.Value.int (55295 : Int) (215 : Nat)] })) ::
    ((nat_lit 31,
      { cls := PySem.Value.type "tuple",
        data := PySem.Data.seq #[PySem.Value.int (63744 : Int) (216 : Nat), PySem.Value.int (64975 : Int) (217 : Nat)] })) ::
    ((nat_lit 32,
      { cls := PySem.Value.type "tuple",
        data := PySem.Data.seq #[PySem.Value.int (65008 : Int) (218 : Nat), PySem.Value.int (65533 : Int) (219 : Nat)] })) ::
    ((nat_lit 33,
      { cls := PySem.Value.type "tuple",
        data := PySem.Data.seq #[PySem.Value.int (65536 : Int) (220 : Nat), PySem.Value.int (983039 : Int) (221 : Nat)] })) ::
    ((nat_lit 34,
      { cls := PySem.Value.type "tuple",
        data :=
          PySem.Data.seq
            #[PySem.Value.ref (22 : Nat), PySem.Value.ref (23 : Nat), PySem.Value.ref (24 : Nat),
              PySem.Value.ref (25 : Nat), PySem.Value.ref (26 : Nat), PySem.Value.ref (27 : Nat),
              PySem.Value.ref (28 : Nat), PySem.Value.ref (29 : Nat), PySem.Value.ref (30 : Nat),
              PySem.Value.ref (31 : Nat), PySem.Value.ref (32 : Nat), PySem.Value.ref (33 : Nat)] })) ::
    ((nat_lit 35,
      { cls := PySem.Value.type "tuple",
        data := PySem.Data.seq #[PySem.Value.int (183 : Int) (223 : Nat), PySem.Value.int (183 : Int) (224 : Nat)] })) ::
    ((nat_lit 36,
      { cls := PySem.Value.type "tuple",
        data := PySem.Data.seq #[PySem.Value.int (768 : Int) (225 : Nat), PySem.Value.int (879 : Int) (226 : Nat)] })) ::
    ((nat_lit 37,
      { cls := PySem.Value.type "tuple",
        data := PySem.Data.seq #[PySem.Value.int (8255 : Int) (227 : Nat), PySem.Value.int (8256 : Int) (228 : Nat)] })) ::
    ((nat_lit 38,
      { cls := PySem.Value.type "tuple",
        data := PySem.Data.seq #[PySem.Value.ref (35 : Nat), PySem.Value.ref (36 : Nat), PySem.Value.ref (37 : Nat)] })) ::
    ((nat_lit 39, { cls := PySem.Value.type "tuple", data := PySem.Data.seq #[] })) ::
    ((nat_lit 41,
      { cls := PySem.Value.type "tuple",
        data :=
          PySem.Data.seq
            #[PySem.Value.str (PySem.Str.ofString "code") (235 : Nat),
              PySem.Value.str (PySem.Str.ofString "ranges") (236 : Nat),
              PySem.Value.str (PySem.Str.ofString "low") (237 : Nat),
              PySem.Value.str (PySem.Str.ofString "high") (238 : Nat)] })) ::
    ((nat_lit 42, { cls := PySem.Value.type "tuple", data := PySem.Data.seq #[] })) ::
    ((nat_lit 44,
      { cls := PySem.Value.type "code",
        data :=
          PySem.Data.fields
            #[PySem.Value.str (PySem.Str.ofString "is_in_ranges") (232 : Nat),
              PySem.Value.str (PySem.Str.ofString "is_in_ranges") (233 : Nat),
              PySem.Value.str (PySem.Str.ofString "/claim/cut.py") (234 : Nat), PySem.Value.int (9 : Int) (0 : Nat),
              PySem.Value.int (2 : Int) (0 : Nat), PySem.Value.int (0 : Int) (0 : Nat), PySem.Value.int (0 : Int) (0 : Nat),
              PySem.Value.int (3 : Int) (0 : Nat), PySem.Value.ref (39 : Nat), PySem.Value.bool Bool.true,
              PySem.Value.int (181 : Int) (0 : Nat), PySem.Value.ref (40 : Nat), PySem.Value.none,
              PySem.Value.ref (41 : Nat), PySem.Value.ref (42 : Nat), PySem.Value.ref (43 : Nat),
              PySem.Value.int (239 : Int) (0 : Nat), PySem.Value.int (9 : Int) (0 : Nat),
              PySem.Value.str (PySem.Str.ofString "/claim/cut.py") (240 : Nat)] })) ::
    ((nat_lit 45,
      { cls := PySem.Value.type "function",
        data :=
          PySem.Data.func
            { name := PySem.Str.ofString "is_in_ranges", qualname := PySem.Str.ofString "is_in_ranges",
              params := pA6, body := PySem.FuncBody.stmts (pB6),
              scope := pS6, globals := (3 : Nat), closure := [], defaults := PySem.Value.none,
              kwdefaults := PySem.Value.none,
              pyModule := PySem.Value.str (PySem.Str.ofString "markupmill.chars") (194 : Nat),
              code := PySem.Value.ref (44 : Nat) } })) ::
    ((nat_lit 46, { cls := PySem.Value.type "tuple", data := PySem.Data.seq #[] })) ::
    ((nat_lit 48,
      { cls := PySem.Value.type "tuple",
        data := PySem.Data.seq #[PySem.Value.str (PySem.Str.ofString "sign") (245 : Nat)] })) ::
    ((nat_lit 49, { cls := PySem.Value.type "tuple", data := PySem.Data.seq #[] })) ::
    ((nat_lit 51,
      { cls := PySem.Value.type "code",
        data :=
          PySem.Data.fields
            #[PySem.Value.str (PySem.Str.ofString "is_space") (242 : Nat),
              PySem.Value.str (PySem.Str.ofString "is_space") (243 : Nat),
              PySem.Value.str (PySem.Str.ofString "/claim/cut.py") (244 : Nat), PySem.Value.int (16 : Int) (0 : Nat),
              PySem.Value.int (1 : Int) (0 : Nat), PySem.Value.int (0 : Int) (0 : Nat), PySem.Value.int (0 : Int) (0 : Nat),
              PySem.Value.int (3 : Int) (0 : Nat), PySem.Value.ref (46 : Nat), PySem.Value.bool Bool.true,
              PySem.Value.int (181 : Int) (0 : Nat), PySem.Value.ref (47 : Nat), PySem.Value.none,
              PySem.Value.ref (48 : Nat), PySem.Value.ref (49 : Nat), PySem.Value.ref (50 : Nat),
              PySem.Value.int (246 : Int) (0 : Nat), PySem.Value.int (16 : Int) (0 : Nat),
              PySem.Value.str (PySem.Str.ofString "/claim/cut.py") (247 : Nat)] })) ::
    ((nat_lit 52,
      { cls := PySem.Value.type "function",
        data :=
          PySem.Data.func
            { name := PySem.Str.ofString "is_space", qualname := PySem.Str.ofString "is_space",
              params := pA7, body := PySem.FuncBody.stmts (pB7),
              scope := pS7, globals := (3 : Nat), closure := [], defaults := PySem.Value.none,
              kwdefaults := PySem.Value.none,
              pyModule := PySem.Value.str (PySem.Str.ofString "markupmill.chars") (194 : Nat),
              code := PySem.Value.ref (51 : Nat) } })) ::
    ((nat_lit 53, { cls := PySem.Value.type "tuple", data := PySem.Data.seq #[] })) ::
    ((nat_lit 55,
      { cls := PySem.Value.type "tuple",
        data := PySem.Data.seq #[PySem.Value.str (PySem.Str.ofString "sign") (252 : Nat)] })) ::
    ((nat_lit 56, { cls := PySem.Value.type "tuple", data := PySem.Data.seq #[] })) ::
    ((nat_lit 58,
      { cls := PySem.Value.type "code",
        data :=
          PySem.Data.fields
            #[PySem.Value.str (PySem.Str.ofString "is_small_letter") (249 : Nat),
              PySem.Value.str (PySem.Str.ofString "is_small_letter") (250 : Nat),
              PySem.Value.str (PySem.Str.ofString "/claim/cut.py") (251 : Nat), PySem.Value.int (18 : Int) (0 : Nat),
              PySem.Value.int (1 : Int) (0 : Nat), PySem.Value.int (0 : Int) (0 : Nat), PySem.Value.int (0 : Int) (0 : Nat),
              PySem.Value.int (3 : Int) (0 : Nat), PySem.Value.ref (53 : Nat), PySem.Value.bool Bool.true,
              PySem.Value.int (181 : Int) (0 : Nat), PySem.Value.ref (54 : Nat), PySem.Value.none,
              PySem.Value.ref (55 : Nat), PySem.Value.ref (56 : Nat), PySem.Value.ref (57 : Nat),
              PySem.Value.int (253 : Int) (0 : Nat), PySem.Value.int (18 : Int) (0 : Nat),
              PySem.Value.str (PySem.Str.ofString "/claim/cut.py") (254 : Nat)] })) ::
    ((nat_lit 59,
      { cls := PySem.Value.type "function",
        data :=
          PySem.Data.func
            { name := PySem.Str.ofString "is_small_letter", qualname := PySem.Str.ofString "is_small_letter",
              params := pA8, body := PySem.FuncBody.stmts (pB8),
              scope := pS8, globals := (3 : Nat), closure := [], defaults := PySem.Value.none,
              kwdefaults := PySem.Value.none,
              pyModule := PySem.Value.str (PySem.Str.ofString "markupmill.chars") (194 : Nat),
              code := PySem.Value.ref (58 : Nat) } })) ::
    ((nat_lit 60, { cls := PySem.Value.type "tuple", data := PySem.Data.seq #[] })) ::
    ((nat_lit 62,
      { cls := PySem.Value.type "tuple",
        data := PySem.Data.seq #[PySem.Value.str (PySem.Str.ofString "sign") (259 : Nat)] })) ::
    ((nat_lit 63, { cls := PySem.Value.type "tuple", data := PySem.Data.seq #[] })) ::
    ((nat_lit 65,
      { cls := PySem.Value.type "code",
        data :=
          PySem.Data.fields
            #[PySem.Value.str (PySem.Str.ofString "is_name_start") (256 : Nat),
              PySem.Value.str (PySem.Str.ofString "is_name_start") (257 : Nat),
              PySem.Value.str (PySem.Str.ofString "/claim/cut.py") (258 : Nat), PySem.Value.int (20 : Int) (0 : Nat),
              PySem.Value.int (1 : Int) (0 : Nat), PySem.Value.int (0 : Int) (0 : Nat), PySem.Value.int (0 : Int) (0 : Nat),
              PySem.Value.int (3 : Int) (0 : Nat), PySem.Value.ref (60 : Nat), PySem.Value.bool Bool.true,
              PySem.Value.int (181 : Int) (0 : Nat), PySem.Value.ref (61 : Nat), PySem.Value.none,
              PySem.Value.ref (62 : Nat), PySem.Value.ref (63 : Nat), PySem.Value.ref (64 : Nat),
              PySem.Value.int (260 : Int) (0 : Nat), PySem.Value.int (20 : Int) (0 : Nat),
              PySem.Value.str (PySem.Str.ofString "/claim/cut.py") (261 : Nat)] })) ::
    ((nat_lit 66,
      { cls := PySem.Value.type "function",
        data :=
          PySem.Data.func
            { name := PySem.Str.ofString "is_name_start", qualname := PySem.Str.ofString "is_name_start",
              params := pA9, body := PySem.FuncBody.stmts (pB9),
              scope := pS9, globals := (3 : Nat), closure := [], defaults := PySem.Value.none,
              kwdefaults := PySem.Value.none,
              pyModule := PySem.Value.str (PySem.Str.ofString "markupmill.chars") (194 : Nat),
              code := PySem.Value.ref (65 : Nat) } })) ::
    ((nat_lit 67, { cls := PySem.Value.type "tuple", data := PySem.Data.seq #[] })) ::
    ((nat_lit 69,
      { cls := PySem.Value.type "tuple",
        data := PySem.Data.seq #[PySem.Value.str (PySem.Str.ofString "sign") (266 : Nat)] })) ::
    ((nat_lit 70, { cls := PySem.Value.type "tuple", data := PySem.Data.seq #[] })) ::
    ((nat_lit 72,
      { cls := PySem.Value.type "code",
        data :=
          PySem.Data.fields
            #[PySem.Value.str (PySem.Str.ofString "is_name_char") (263 : Nat),
              PySem.Value.str (PySem.Str.ofString "is_name_char") (264 : Nat),
              PySem.Value.str (PySem.Str.ofString "/claim/cut.py") (265 : Nat), PySem.Value.int (24 : Int) (0 : Nat),
              PySem.Value.int (1 : Int) (0 : Nat), PySem.Value.int (0 : Int) (0 : Nat), PySem.Value.int (0 : Int) (0 : Nat),
              PySem.Value.int (3 : Int) (0 : Nat), PySem.Value.ref (67 : Nat), PySem.Value.bool Bool.true,
              PySem.Value.int (181 : Int) (0 : Nat), PySem.Value.ref (68 : Nat), PySem.Value.none,
              PySem.Value.ref (69 : Nat), PySem.Value.ref (70 : Nat), PySem.Value.ref (71 : Nat),
              PySem.Value.int (267 : Int) (0 : Nat), PySem.Value.int (24 : Int) (0 : Nat),
              PySem.Value.str (PySem.Str.ofString "/claim/cut.py") (268 : Nat)] })) ::
    ((nat_lit 73,
      { cls := PySem.Value.type "function",
        data :=
          PySem.Data.func
            { name := PySem.Str.ofString "is_name_char", qualname := PySem.Str.ofString "is_name_char",
              params := pA10, body := PySem.FuncBody.stmts (pB10),
              scope := pS10, globals := (3 : Nat), closure := [], defaults := PySem.Value.none,
              kwdefaults := PySem.Value.none,
              pyModule := PySem.Value.str (PySem.Str.ofString "markupmill.chars") (194 : Nat),
              code := PySem.Value.ref (72 : Nat) } })) ::
    ((nat_lit 74, { cls := PySem.Value.type "tuple", data := PySem.Data.seq #[PySem.Value.type "Exception"] })) ::
    ((nat_lit 81, { cls := PySem.Value.type "tuple", data := PySem.Data.seq #[] })) ::
    ((nat_lit 83,
      { cls := PySem.Value.type "tuple",
        data :=
          PySem.Data.seq
            #[PySem.Value.str (PySem.Str.ofString "self") (287 : Nat),
              PySem.Value.str (PySem.Str.ofString "message") (288 : Nat)] })) ::
    ((nat_lit 84, { cls := PySem.Value.type "tuple", data := PySem.Data.seq #[] })) ::
    ((nat_lit 86,
      { cls := PySem.Value.type "code",
        data :=
          PySem.Data.fields
            #[PySem.Value.str (PySem.Str.ofString "__init__") (284 : Nat),
              PySem.Value.str (PySem.Str.ofString "MarkupError.__init__") (285 : Nat),
              PySem.Value.str (PySem.Str.ofString "/claim/cut.py") (286 : Nat), PySem.Value.int (33 : Int) (0 : Nat),
              PySem.Value.int (2 : Int) (0 : Nat), PySem.Value.int (0 : Int) (0 : Nat), PySem.Value.int (0 : Int) (0 : Nat),
              PySem.Value.int (3 : Int) (0 : Nat), PySem.Value.ref (81 : Nat), PySem.Value.bool Bool.true,
              PySem.Value.int (181 : Int) (0 : Nat), PySem.Value.ref (82 : Nat), PySem.Value.none,
              PySem.Value.ref (83 : Nat), PySem.Value.ref (84 : Nat), PySem.Value.ref (85 : Nat),
              PySem.Value.int (289 : Int) (0 : Nat), PySem.Value.int (33 : Int) (0 : Nat),
              PySem.Value.str (PySem.Str.ofString "/claim/cut.py") (290 : Nat)] })) ::
    ((nat_lit 87,
      { cls := PySem.Value.type "function",
        data :=
          PySem.Data.func
            { name := PySem.Str.ofString "__init__", qualname := PySem.Str.ofString "MarkupError.__init__",
              params := pA12_0,
              body := PySem.FuncBody.stmts (pB12_0),
              scope := pS12_0, globals := (3 : Nat), closure := [],
              defaults := PySem.Value.none, kwdefaults := PySem.Value.none,
              pyModule := PySem.Value.str (PySem.Str.ofString "markupmill.errors") (270 : Nat),
              code := PySem.Value.ref (86 : Nat) } })) ::
    ((nat_lit 88,
      { cls := PySem.Value.type "tuple",
        data := PySem.Data.seq #[PySem.Value.str (PySem.Str.ofString "message") (292 : Nat)] })) ::
    ((nat_lit 89,
      { cls := PySem.Value.type "dict",
        data :=
          PySem.Data.dict
            #[{ hash := PySem.PyData.keyHash P (PySem.Str.ofString "__module__"),
                key := PySem.Value.str (PySem.Str.ofString "__module__") (279 : Nat),
                val := PySem.Value.str (PySem.Str.ofString "markupmill.errors") (270 : Nat) },
              { hash := PySem.PyData.keyHash P (PySem.Str.ofString "__firstlineno__"),
                key := PySem.Value.str (PySem.Str.ofString "__firstlineno__") (283 : Nat),
                val := PySem.Value.int (31 : Int) (282 : Nat) },
              { hash := PySem.PyData.keyHash P (PySem.Str.ofString "__init__"),
                key := PySem.Value.str (PySem.Str.ofString "__init__") (291 : Nat), val := PySem.Value.ref (87 : Nat) },
              { hash := PySem.PyData.keyHash P (PySem.Str.ofString "__static_attributes__"),
                key := PySem.Value.str (PySem.Str.ofString "__static_attributes__") (293 : Nat),
                val := PySem.Value.ref (88 : Nat) },
              { hash := PySem.PyData.keyHash P (PySem.Str.ofString "__weakref__"),
                key := PySem.Value.str (PySem.Str.ofString "__weakref__") (295 : Nat), val := PySem.Value.ref (91 : Nat) },
              { hash := PySem.PyData.keyHash P (PySem.Str.ofString "__doc__"),
                key := PySem.Value.str (PySem.Str.ofString "__doc__") (296 : Nat), val := PySem.Value.none }]
            (3 : Nat) })) ::
    ((nat_lit 90,
      { cls := PySem.Value.type "type",
        data :=
          PySem.Data.cls
            { name := PySem.Str.ofString "MarkupError", bases := [PySem.Value.type "Exception"],
              mro :=
                [PySem.Value.ref (90 : Nat), PySem.Value.type "Exception", PySem.Value.type "BaseException",
                  PySem.Value.type "object"],
              ns := (89 : Nat), qualname := PySem.Str.ofString "MarkupError", subclasses := [PySem.Value.ref (103 : Nat)] },
        slots :=
          #[Option.some (PySem.Value.ref (74 : Nat)), Option.none,
            Option.some (PySem.Value.str (PySem.Str.ofString "MarkupError") (272 : Nat)),
            Option.some (PySem.Value.str (PySem.Str.ofString "MarkupError") (280 : Nat)),
            Option.some (PySem.Value.builtin "Exception.__new__"), Option.some (PySem.Value.bool Bool.true)] })) ::
    ((nat_lit 91,
      { cls := PySem.Value.type "getset_descriptor",
        data :=
          PySem.Data.fields
            #[PySem.Value.str (PySem.Str.ofString "__weakref__") (294 : Nat), PySem.Value.ref (90 : Nat),
              PySem.Value.builtin "ExceptionGroup.__weakref__", PySem.Value.none] })) ::
    ((nat_lit 94, { cls := PySem.Value.type "tuple", data := PySem.Data.seq #[PySem.Value.ref (90 : Nat)] })) ::
    ((nat_lit 101, { cls := PySem.Value.type "tuple", data := PySem.Data.seq #[] })) ::
    ((nat_lit 102,
      { cls := PySem.Value.type "dict",
        data :=
          PySem.Data.dict
            #[{ hash := PySem.PyData.keyHash P (PySem.Str.ofString "__module__"),
                key := PySem.Value.str (PySem.Str.ofString "__module__") (308 : Nat),
                val := PySem.Value.str (PySem.Str.ofString "markupmill.errors") (270 : Nat) },
              { hash := PySem.PyData.keyHash P (PySem.Str.ofString "__firstlineno__"),
                key := PySem.Value.str (PySem.Str.ofString "__firstlineno__") (312 : Nat),
                val := PySem.Value.int (36 : Int) (311 : Nat) },
              { hash := PySem.PyData.keyHash P (PySem.Str.ofString "__static_attributes__"),
                key := PySem.Value.str (PySem.Str.ofString "__static_attributes__") (313 : Nat),
                val := PySem.Value.ref (101 : Nat) },
              { hash := PySem.PyData.keyHash P (PySem.Str.ofString "__doc__"),
                key := PySem.Value.str (PySem.Str.ofString "__doc__") (314 : Nat), val := PySem.Value.none }]
            (2 : Nat) })) ::
    ((nat_lit 103,
      { cls := PySem.Value.type "type",
        data :=
          PySem.Data.cls
            { name := PySem.Str.ofString "PathFault", bases := [PySem.Value.ref (90 : Nat)],
              mro :=
                [PySem.Value.ref (103 : Nat), PySem.Value.ref (90 : Nat), PySem.Value.type "Exception",
                  PySem.Value.type "BaseException", PySem.Value.type "object"],
              ns := (102 : Nat), qualname := PySem.Str.ofString "PathFault" },
        slots :=
          #[Option.some (PySem.Value.ref (94 : Nat)), Option.none,
            Option.some (PySem.Value.str (PySem.Str.ofString "PathFault") (301 : Nat)),
            Option.some (PySem.Value.str (PySem.Str.ofString "PathFault") (309 : Nat)),
            Option.some (PySem.Value.builtin "Exception.__new__"), Option.some (PySem.Value.bool Bool.true)] })) ::
    ((nat_lit 106,
      { cls := PySem.Value.type "tuple",
        data :=
          PySem.Data.seq
            #[PySem.Value.str (PySem.Str.ofString "//") (321 : Nat), PySem.Value.str (PySem.Str.ofString "!=") (322 : Nat),
              PySem.Value.str (PySem.Str.ofString "<=") (323 : Nat), PySem.Value.str (PySem.Str.ofString ">=") (324 : Nat),
              PySem.Value.str (PySem.Str.ofString "..") (325 : Nat),
              PySem.Value.str (PySem.Str.ofString "::") (326 : Nat)] })) ::
    ((nat_lit 107,
      { cls := PySem.Value.type "tuple",
        data :=
          PySem.Data.seq
            #[PySem.Value.str (PySem.Str.ofString "/") (328 : Nat), PySem.Value.str (PySem.Str.ofString "//") (329 : Nat),
              PySem.Value.str (PySem.Str.ofString "|") (330 : Nat), PySem.Value.str (PySem.Str.ofString "+") (331 : Nat),
              PySem.Value.str (PySem.Str.ofString "-") (332 : Nat), PySem.Value.str (PySem.Str.ofString "=") (333 : Nat),
              PySem.Value.str (PySem.Str.ofString "!=") (334 : Nat), PySem.Value.str (PySem.Str.ofString "<") (335 : Nat),
              PySem.Value.str (PySem.Str.ofString "<=") (336 : Nat), PySem.Value.str (PySem.Str.ofString ">") (337 : Nat),
              PySem.Value.str (PySem.Str.ofString ">=") (338 : Nat)] })) ::
    ((nat_lit 108,
      { cls := PySem.Value.type "tuple",
        data :=
          PySem.Data.seq
            #[PySem.Value.str (PySem.Str.ofString "(") (340 : Nat), PySem.Value.str (PySem.Str.ofString ")") (341 : Nat),
              PySem.Value.str (PySem.Str.ofString "[") (342 : Nat), PySem.Value.str (PySem.Str.ofString "]") (343 : Nat),
              PySem.Value.str (PySem.Str.ofString ".") (344 : Nat), PySem.Value.str (PySem.Str.ofString "..") (345 : Nat),
              PySem.Value.str (PySem.Str.ofString "@") (346 : Nat), PySem.Value.str (PySem.Str.ofString ",") (347 : Nat),
              PySem.Value.str (PySem.Str.ofString "::") (348 : Nat)] })) ::
    ((nat_lit 109,
      { cls := PySem.Value.type "tuple",
        data :=
          PySem.Data.seq
            #[PySem.Value.str (PySem.Str.ofString "and") (350 : Nat), PySem.Value.str (PySem.Str.ofString "or") (351 : Nat),
              PySem.Value.str (PySem.Str.ofString "mod") (352 : Nat),
              PySem.Value.str (PySem.Str.ofString "div") (353 : Nat)] })) ::
    ((nat_lit 110,
      { cls := PySem.Value.type "tuple",
        data :=
          PySem.Data.seq
            #[PySem.Value.str (PySem.Str.ofString "comment") (355 : Nat),
              PySem.Value.str (PySem.Str.ofString "text") (356 : Nat),
              PySem.Value.str (PySem.Str.ofString "processing-instruction") (357 : Nat),
              PySem.Value.str (PySem.Str.ofString "node") (358 : Nat)] })) ::
    ((nat_lit 111,
      { cls := PySem.Value.type "tuple",
        data :=
          PySem.Data.seq
            #[PySem.Value.str (PySem.Str.ofString "@") (360 : Nat), PySem.Value.str (PySem.Str.ofString "::") (361 : Nat),
              PySem.Value.str (PySem.Str.ofString "(") (362 : Nat), PySem.Value.str (PySem.Str.ofString "[") (363 : Nat),
              PySem.Value.str (PySem.Str.ofString ",") (364 : Nat)] })) ::
    ((nat_lit 119, { cls := PySem.Value.type "tuple", data := PySem.Data.seq #[] })) ::
    ((nat_lit 121,
      { cls := PySem.Value.type "tuple",
        data :=
          PySem.Data.seq
            #[PySem.Value.str (PySem.Str.ofString "self") (381 : Nat),
              PySem.Value.str (PySem.Str.ofString "kind") (382 : Nat),
              PySem.Value.str (PySem.Str.ofString "text") (383 : Nat),
              PySem.Value.str (PySem.Str.ofString "place") (384 : Nat)] })) ::
    ((nat_lit 122, { cls := PySem.Value.type "tuple", data := PySem.Data.seq #[] })) ::
    ((nat_lit 124,
      { cls := PySem.Value.type "code",
        data :=
          PySem.Data.fields
            #[PySem.Value.str (PySem.Str.ofString "__init__") (378 : Nat),
              PySem.Value.str (PySem.Str.ofString "Word.__init__") (379 : Nat),
              PySem.Value.str (PySem.Str.ofString "/claim/cut.py") (380 : Nat), PySem.Value.int (48 : Int) (0 : Nat),
              PySem.Value.int (4 : Int) (0 : Nat), PySem.Value.int (0 : Int) (0 : Nat), PySem.Value.int (0 : Int) (0 : Nat),
              PySem.Value.int (3 : Int) (0 : Nat), PySem.Value.ref (119 : Nat), PySem.Value.bool Bool.true,
              PySem.Value.int (181 : Int) (0 : Nat), PySem.Value.ref (120 : Nat), PySem.Value.none,
              PySem.Value.ref (121 : Nat), PySem.Value.ref (122 : Nat), PySem.Value.ref (123 : Nat),
              PySem.Value.int (385 : Int) (0 : Nat), PySem.Value.int (48 : Int) (0 : Nat),
              PySem.Value.str (PySem.Str.ofString "/claim/cut.py") (386 : Nat)] })) ::
    ((nat_lit 125,
      { cls := PySem.Value.type "function",
        data :=
          PySem.Data.func
            { name := PySem.Str.ofString "__init__", qualname := PySem.Str.ofString "Word.__init__",
              params := pA22_0,
              body := PySem.FuncBody.stmts (pB22_0),
              scope := pS22_0, globals := (3 : Nat), closure := [],
              defaults := PySem.Value.none, kwdefaults := PySem.Value.none,
              pyModule := PySem.Value.str (PySem.Str.ofString "markupmill.xpath_words") (317 : Nat),
              code := PySem.Value.ref (124 : Nat) } })) ::
    ((nat_lit 126, { cls := PySem.Value.type "tuple", data := PySem.Data.seq #[] })) ::
    ((nat_lit 128,
      { cls := PySem.Value.type "tuple",
        data :=
          PySem.Data.seq
            #[PySem.Value.str (PySem.Str.ofString "self") (391 : Nat),
              PySem.Value.str (PySem.Str.ofString "text") (392 : Nat)] })) ::
    ((nat_lit 129, { cls := PySem.Value.type "tuple", data := PySem.Data.seq #[] })) ::
    ((nat_lit 131,
      { cls := PySem.Value.type "code",
        data :=
          PySem.Data.fields
            #[PySem.Value.str (PySem.Str.ofString "is_sign") (388 : Nat),
              PySem.Value.str (PySem.Str.ofString "Word.is_sign") (389 : Nat),
              PySem.Value.str (PySem.Str.ofString "/claim/cut.py") (390 : Nat), PySem.Value.int (53 : Int) (0 : Nat),
              PySem.Value.int (2 : Int) (0 : Nat), PySem.Value.int (0 : Int) (0 : Nat), PySem.Value.int (0 : Int) (0 : Nat),
              PySem.Value.int (3 : Int) (0 : Nat), PySem.Value.ref (126 : Nat), PySem.Value.bool Bool.true,
              PySem.Value.int (181 : Int) (0 : Nat), PySem.Value.ref (127 : Nat), PySem.Value.none,
              PySem.Value.ref (128 : Nat), PySem.Value.ref (129 : Nat), PySem.Value.ref (130 : Nat),
              PySem.Value.int (393 : Int) (0 : Nat), PySem.Value.int (53 : Int) (0 : Nat),
              PySem.Value.str (PySem.Str.ofString "/claim/cut.py") (394 : Nat)] })) ::
    ((nat_lit 132,
      { cls := PySem.Value.type "function",
        data :=
          PySem.Data.func
            { name := PySem.Str.ofString "is_sign", qualname := PySem.Str.ofString "Word.is_sign",
              params := pA22_1,
              body := PySem.FuncBody.stmts (pB22_1),
              scope := pS22_1, globals := (3 : Nat), closure := [],
              defaults := PySem.Value.none, kwdefaults := PySem.Value.none,
              pyModule := PySem.Value.str (PySem.Str.ofString "markupmill.xpath_words") (317 : Nat),
              code := PySem.Value.ref (131 : Nat) } })) ::
    ((nat_lit 133, { cls := PySem.Value.type "tuple", data := PySem.Data.seq #[] })) ::
    ((nat_lit 135,
      { cls := PySem.Value.type "tuple",
        data :=
          PySem.Data.seq
            #[PySem.Value.str (PySem.Str.ofString "self") (399 : Nat),
              PySem.Value.str (PySem.Str.ofString "text") (400 : Nat)] })) ::
    ((nat_lit 136, { cls := PySem.Value.type "tuple", data := PySem.Data.seq #[] })) ::
    ((nat_lit 138,
      { cls := PySem.Value.type "code",
        data :=
          PySem.Data.fields
            #[PySem.Value.str (PySem.Str.ofString "is_operator") (396 : Nat),
              PySem.Value.str (PySem.Str.ofString "Word.is_operator") (397 : Nat),
              PySem.Value.str (PySem.Str.ofString "/claim/cut.py") (398 : Nat), PySem.Value.int (56 : Int) (0 : Nat),
              PySem.Value.int (2 : Int) (0 : Nat), PySem.Value.int (0 : Int) (0 : Nat), PySem.Value.int (0 : Int) (0 : Nat),
              PySem.Value.int (3 : Int) (0 : Nat), PySem.Value.ref (133 : Nat), PySem.Value.bool Bool.true,
              PySem.Value.int (181 : Int) (0 : Nat), PySem.Value.ref (134 : Nat), PySem.Value.none,
              PySem.Value.ref (135 : Nat), PySem.Value.ref (136 : Nat), PySem.Value.ref (137 : Nat),
              PySem.Value.int (401 : Int) (0 : Nat), PySem.Value.int (56 : Int) (0 : Nat),
              PySem.Value.str (PySem.Str.ofString "/claim/cut.py") (402 : Nat)] })) ::
    ((nat_lit 139,
      { cls := PySem.Value.type "function",
        data :=
          PySem.Data.func
            { name := PySem.Str.ofString "is_operator", qualname := PySem.Str.ofString "Word.is_operator",
              params := pA22_2,
              body := PySem.FuncBody.stmts (pB22_2),
              scope := pS22_1, globals := (3 : Nat), closure := [],
              defaults := PySem.Value.none, kwdefaults := PySem.Value.none,
              pyModule := PySem.Value.str (PySem.Str.ofString "markupmill.xpath_words") (317 : Nat),
              code := PySem.Value.ref (138 : Nat) } })) ::
    ((nat_lit 140, { cls := PySem.Value.type "tuple", data := PySem.Data.seq #[] })) ::
    ((nat_lit 142,
      { cls := PySem.Value.type "tuple",
        data := PySem.Data.seq #[PySem.Value.str (PySem.Str.ofString "self") (407 : Nat)] })) ::
    ((nat_lit 143, { cls := PySem.Value.type "tuple", data := PySem.Data.seq #[] })) ::
    ((nat_lit 145,
      { cls := PySem.Value.type "code",
        data :=
          PySem.Data.fields
            #[PySem.Value.str (PySem.Str.ofString "row") (404 : Nat),
              PySem.Value.str (PySem.Str.ofString "Word.row") (405 : Nat),
              PySem.Value.str (PySem.Str.ofString "/claim/cut.py") (406 : Nat), PySem.Value.int (59 : Int) (0 : Nat),
              PySem.Value.int (1 : Int) (0 : Nat), PySem.Value.int (0 : Int) (0 : Nat), PySem.Value.int (0 : Int) (0 : Nat),
              PySem.Value.int (3 : Int) (0 : Nat), PySem.Value.ref (140 : Nat), PySem.Value.bool Bool.true,
              PySem.Value.int (181 : Int) (0 : Nat), PySem.Value.ref (141 : Nat), PySem.Value.none,
              PySem.Value.ref (142 : Nat), PySem.Value.ref (143 : Nat), PySem.Value.ref (144 : Nat),
              PySem.Value.int (408 : Int) (0 : Nat), PySem.Value.int (59 : Int) (0 : Nat),
              PySem.Value.str (PySem.Str.ofString "/claim/cut.py") (409 : Nat)] })) ::
    ((nat_lit 146,
      { cls := PySem.Value.type "function",
        data :=
          PySem.Data.func
            { name := PySem.Str.ofString "row", qualname := PySem.Str.ofString "Word.row",
              params := pA22_3,
              body := PySem.FuncBody.stmts (pB22_3),
              scope := pS22_3, globals := (3 : Nat), closure := [],
              defaults := PySem.Value.none, kwdefaults := PySem.Value.none,
              pyModule := PySem.Value.str (PySem.Str.ofString "markupmill.xpath_words") (317 : Nat),
              code := PySem.Value.ref (145 : Nat) } })) ::
    ((nat_lit 147,
      { cls := PySem.Value.type "tuple",
        data :=
          PySem.Data.seq
            #[PySem.Value.str (PySem.Str.ofString "kind") (411 : Nat),
              PySem.Value.str (PySem.Str.ofString "place") (412 : Nat),
              PySem.Value.str (PySem.Str.ofString "text") (413 : Nat)] })) ::
    ((nat_lit 148,
      { cls := PySem.Value.type "dict",
        data :=
          PySem.Data.dict
            #[{ hash := PySem.PyData.keyHash P (PySem.Str.ofString "__module__"),
                key := PySem.Value.str (PySem.Str.ofString "__module__") (373 : Nat),
                val := PySem.Value.str (PySem.Str.ofString "markupmill.xpath_words") (317 : Nat) },
              { hash := PySem.PyData.keyHash P (PySem.Str.ofString "__firstlineno__"),
                key := PySem.Value.str (PySem.Str.ofString "__firstlineno__") (377 : Nat),
                val := PySem.Value.int (46 : Int) (376 : Nat) },
              { hash := PySem.PyData.keyHash P (PySem.Str.ofString "__init__"),
                key := PySem.Value.str (PySem.Str.ofString "__init__") (387 : Nat), val := PySem.Value.ref (125 : Nat) },
              { hash := PySem.PyData.keyHash P (PySem.Str.ofString "is_sign"),
                key := PySem.Value.str (PySem.Str.ofString "is_sign") (395 : Nat), val := PySem.Value.ref (132 : Nat) },
              { hash := PySem.PyData.keyHash P (PySem.Str.ofString "is_operator"),
                key := PySem.Value.str (PySem.Str.ofString "is_operator") (403 : Nat), val := PySem.Value.ref (139 : Nat) },
              { hash := PySem.PyData.keyHash P (PySem.Str.ofString "row"),
                key := PySem.Value.str (PySem.Str.ofString "row") (410 : Nat), val := PySem.Value.ref (146 : Nat) },
              { hash := PySem.PyData.keyHash P (PySem.Str.ofString "__static_attributes__"),
                key := PySem.Value.str (PySem.Str.ofString "__static_attributes__") (414 : Nat),
                val := PySem.Value.ref (147 : Nat) },
              { hash := PySem.PyData.keyHash P (PySem.Str.ofString "__dict__"),
                key := PySem.Value.str (PySem.Str.ofString "__dict__") (416 : Nat), val := PySem.Value.ref (150 : Nat) },
              { hash := PySem.PyData.keyHash P (PySem.Str.ofString "__weakref__"),
                key := PySem.Value.str (PySem.Str.ofString "__weakref__") (418 : Nat), val := PySem.Value.ref (151 : Nat) },
              { hash := PySem.PyData.keyHash P (PySem.Str.ofString "__doc__"),
                key := PySem.Value.str (PySem.Str.ofString "__doc__") (419 : Nat), val := PySem.Value.none }]
            (4 : Nat) })) ::
    ((nat_lit 149,
      { cls := PySem.Value.type "type",
        data :=
          PySem.Data.cls
            { name := PySem.Str.ofString "Word", bases := [PySem.Value.type "object"],
              mro := [PySem.Value.ref (149 : Nat), PySem.Value.type "object"], ns := (148 : Nat),
              qualname := PySem.Str.ofString "Word" },
        slots :=
          #[Option.none, Option.none, Option.some (PySem.Value.str (PySem.Str.ofString "Word") (366 : Nat)),
            Option.some (PySem.Value.str (PySem.Str.ofString "Word") (374 : Nat)),
            Option.some (PySem.Value.builtin "object.__new__"), Option.some (PySem.Value.bool Bool.true)] })) ::
    ((nat_lit 150,
      { cls := PySem.Value.type "getset_descriptor",
        data :=
          PySem.Data.fields
            #[PySem.Value.str (PySem.Str.ofString "__dict__") (415 : Nat), PySem.Value.ref (149 : Nat),
              PySem.Value.builtin "function.__dict__", PySem.Value.builtin "function.__dict__#set"] })) ::
    ((nat_lit 151,
      { cls := PySem.Value.type "getset_descriptor",
        data :=
          PySem.Data.fields
            #[PySem.Value.str (PySem.Str.ofString "__weakref__") (417 : Nat), PySem.Value.ref (149 : Nat),
              PySem.Value.builtin "ExceptionGroup.__weakref__", PySem.Value.none] })) ::
    ((nat_lit 161, { cls := PySem.Value.type "tuple", data := PySem.Data.seq #[] })) ::
    ((nat_lit 163,
      { cls := PySem.Value.type "tuple",
        data :=
          PySem.Data.seq
            #[PySem.Value.str (PySem.Str.ofString "self") (437 : Nat),
              PySem.Value.str (PySem.Str.ofString "text") (438 : Nat)] })) ::
    ((nat_lit 164, { cls := PySem.Value.type "tuple", data := PySem.Data.seq #[] })) ::
    ((nat_lit 166,
      { cls := PySem.Value.type "code",
        data :=
          PySem.Data.fields
            #[PySem.Value.str (PySem.Str.ofString "__init__") (434 : Nat),
              PySem.Value.str (PySem.Str.ofString "PathScanner.__init__") (435 : Nat),
              PySem.Value.str (PySem.Str.ofString "/claim/cut.py") (436 : Nat), PySem.Value.int (63 : Int) (0 : Nat),
              PySem.Value.int (2 : Int) (0 : Nat), PySem.Value.int (0 : Int) (0 : Nat), PySem.Value.int (0 : Int) (0 : Nat),
              PySem.Value.int (3 : Int) (0 : Nat), PySem.Value.ref (161 : Nat), PySem.Value.bool Bool.true,
              PySem.Value.int (181 : Int) (0 : Nat), PySem.Value.ref (162 : Nat), PySem.Value.none,
              PySem.Value.ref (163 : Nat), PySem.Value.ref (164 : Nat), PySem.Value.ref (165 : Nat),
              PySem.Value.int (439 : Int) (0 : Nat), PySem.Value.int (63 : Int) (0 : Nat),
              PySem.Value.str (PySem.Str.ofString "/claim/cut.py") (440 : Nat)] })) ::
    ((nat_lit 167,
      { cls := PySem.Value.type "function",
        data :=
          PySem.Data.func
            { name := PySem.Str.ofString "__init__", qualname := PySem.Str.ofString "PathScanner.__init__",
              params := pA23_0,
              body := PySem.FuncBody.stmts (pB23_0),
              scope := pS23_0, globals := (3 : Nat), closure := [],
              defaults := PySem.Value.none, kwdefaults := PySem.Value.none,
              pyModule := PySem.Value.str (PySem.Str.ofString "markupmill.xpath_words") (317 : Nat),
              code := PySem.Value.ref (166 : Nat) } })) ::
    ((nat_lit 168, { cls := PySem.Value.type "tuple", data := PySem.Data.seq #[PySem.Value.int (0 : Int) (442 : Nat)] })) ::
    ((nat_lit 169, { cls := PySem.Value.type "tuple", data := PySem.Data.seq #[] })) ::
    ((nat_lit 171,
      { cls := PySem.Value.type "tuple",
        data :=
          PySem.Data.seq
            #[PySem.Value.str (PySem.Str.ofString "self") (446 : Nat),
              PySem.Value.str (PySem.Str.ofString "ahead") (447 : Nat),
              PySem.Value.str (PySem.Str.ofString "place") (448 : Nat)] })) ::
    ((nat_lit 172, { cls := PySem.Value.type "tuple", data := PySem.Data.seq #[] })) ::
    ((nat_lit 174,
      { cls := PySem.Value.type "code",
        data :=
          PySem.Data.fields
            #[PySem.Value.str (PySem.Str.ofString "sign") (443 : Nat),
              PySem.Value.str (PySem.Str.ofString "PathScanner.sign") (444 : Nat),
              PySem.Value.str (PySem.Str.ofString "/claim/cut.py") (445 : Nat), PySem.Value.int (68 : Int) (0 : Nat),
              PySem.Value.int (2 : Int) (0 : Nat), PySem.Value.int (0 : Int) (0 : Nat), PySem.Value.int (0 : Int) (0 : Nat),
              PySem.Value.int (3 : Int) (0 : Nat), PySem.Value.ref (169 : Nat), PySem.Value.bool Bool.true,
              PySem.Value.int (181 : Int) (0 : Nat), PySem.Value.ref (170 : Nat), PySem.Value.none,
              PySem.Value.ref (171 : Nat), PySem.Value.ref (172 : Nat), PySem.Value.ref (173 : Nat),
              PySem.Value.int (449 : Int) (0 : Nat), PySem.Value.int (68 : Int) (0 : Nat),
              PySem.Value.str (PySem.Str.ofString "/claim/cut.py") (450 : Nat)] })) ::
    ((nat_lit 175,
      { cls := PySem.Value.type "function",
        data :=
          PySem.Data.func
            { name := PySem.Str.ofString "sign", qualname := PySem.Str.ofString "PathScanner.sign",
              params := pA23_1,
              body := PySem.FuncBody.stmts (pB23_1),
              scope := pS23_1, globals := (3 : Nat), closure := [],
              defaults := PySem.Value.ref (168 : Nat), kwdefaults := PySem.Value.none,
              pyModule := PySem.Value.str (PySem.Str.ofString "markupmill.xpath_words") (317 : Nat),
              code := PySem.Value.ref (174 : Nat) } })) ::
    ((nat_lit 176, { cls := PySem.Value.type "tuple", data := PySem.Data.seq #[] })) ::
    ((nat_lit 178,
      { cls := PySem.Value.type "tuple",
        data :=
          PySem.Data.seq
            #[PySem.Value.str (PySem.Str.ofString "self") (455 : Nat),
              PySem.Value.str (PySem.Str.ofString "kind") (456 : Nat),
              PySem.Value.str (PySem.Str.ofString "text") (457 : Nat),
              PySem.Value.str (PySem.Str.ofString "begin") (458 : Nat)] })) ::
    ((nat_lit 179, { cls := PySem.Value.type "tuple", data := PySem.Data.seq #[] })) ::
    ((nat_lit 181,
      { cls := PySem.Value.type "code",
        data :=
          PySem.Data.fields
            #[PySem.Value.str (PySem.Str.ofString "add") (452 : Nat),
              PySem.Value.str (PySem.Str.ofString "PathScanner.add") (453 : Nat),
              PySem.Value.str (PySem.Str.ofString "/claim/cut.py") (454 : Nat), PySem.Value.int (72 : Int) (0 : Nat),
              PySem.Value.int (4 : Int) (0 : Nat), PySem.Value.int (0 : Int) (0 : Nat), PySem.Value.int (0 : Int) (0 : Nat),
              PySem.Value.int (3 : Int) (0 : Nat), PySem.Value.ref (176 : Nat), PySem.Value.bool Bool.true,
              PySem.Value.int (181 : Int) (0 : Nat), PySem.Value.ref (177 : Nat), PySem.Value.none,
              PySem.Value.ref (178 : Nat), PySem.Value.ref (179 : Nat), PySem.Value.ref (180 : Nat),
              PySem.Value.int (459 : Int) (0 : Nat), PySem.Value.int (72 : Int) (0 : Nat),
              PySem.Value.str (PySem.Str.ofString "/claim/cut.py") (460 : Nat)] })) ::
    ((nat_lit 182,
      { cls := PySem.Value.type "function",
        data :=
          PySem.Data.func
            { name := PySem.Str.ofString "add", qualname := PySem.Str.ofString "PathScanner.add",
              params := pA23_2,
              body := PySem.FuncBody.stmts (pB23_2),
              scope := pS23_2, globals := (3 : Nat), closure := [],
              defaults := PySem.Value.none, kwdefaults := PySem.Value.none,
              pyModule := PySem.Value.str (PySem.Str.ofString "markupmill.xpath_words") (317 : Nat),
              code := PySem.Value.ref (181 : Nat) } })) ::
    ((nat_lit 183, { cls := PySem.Value.type "tuple", data := PySem.Data.seq #[] })) ::
    ((nat_lit 185,
      { cls := PySem.Value.type "tuple",
        data := PySem.Data.seq #[PySem.Value.str (PySem.Str.ofString "self") (465 : Nat)] })) ::
    ((nat_lit 186, { cls := PySem.Value.type "tuple", data := PySem.Data.seq #[] })) ::
    ((nat_lit 188,
      { cls := PySem.Value.type "code",
        data :=
          PySem.Data.fields
            #[PySem.Value.str (PySem.Str.ofString "run") (462 : Nat),
              PySem.Value.str (PySem.Str.ofString "PathScanner.run") (463 : Nat),
              PySem.Value.str (PySem.Str.ofString "/claim/cut.py") (464 : Nat), PySem.Value.int (75 : Int) (0 : Nat),
              PySem.Value.int (1 : Int) (0 : Nat), PySem.Value.int (0 : Int) (0 : Nat), PySem.Value.int (0 : Int) (0 : Nat),
              PySem.Value.int (3 : Int) (0 : Nat), PySem.Value.ref (183 : Nat), PySem.Value.bool Bool.true,
              PySem.Value.int (181 : Int) (0 : Nat), PySem.Value.ref (184 : Nat), PySem.Value.none,
              PySem.Value.ref (185 : Nat), PySem.Value.ref (186 : Nat), PySem.Value.ref (187 : Nat),
              PySem.Value.int (466 : Int) (0 : Nat), PySem.Value.int (75 : Int) (0 : Nat),
              PySem.Value.str (PySem.Str.ofString "/claim/cut.py") (467 : Nat)] })) ::
    ((nat_lit 189,
      { cls := PySem.Value.type "function",
        data :=
          PySem.Data.func
            { name := PySem.Str.ofString "run", qualname := PySem.Str.ofString "PathScanner.run",
              params := pA23_3,
              body := PySem.FuncBody.stmts (pB23_3),
              scope := pS23_3, globals := (3 : Nat), closure := [],
              defaults := PySem.Value.none, kwdefaults := PySem.Value.none,
              pyModule := PySem.Value.str (PySem.Str.ofString "markupmill.xpath_words") (317 : Nat),
              code := PySem.Value.ref (188 : Nat) } })) ::
    ((nat_lit 190, { cls := PySem.Value.type "tuple", data := PySem.Data.seq #[] })) ::
    ((nat_lit 192,
      { cls := PySem.Value.type "tuple",
        data := PySem.Data.seq #[PySem.Value.str (PySem.Str.ofString "self") (472 : Nat)] })) ::
    ((nat_lit 193, { cls := PySem.Value.type "tuple", data := PySem.Data.seq #[] })) ::
    ((nat_lit 195,
      { cls := PySem.Value.type "code",
        data :=
          PySem.Data.fields
            #[PySem.Value.str (PySem.Str.ofString "skip") (469 : Nat),
              PySem.Value.str (PySem.Str.ofString "PathScanner.skip") (470 : Nat),
              PySem.Value.str (PySem.Str.ofString "/claim/cut.py") (471 : Nat), PySem.Value.int (83 : Int) (0 : Nat),
              PySem.Value.int (1 : Int) (0 : Nat), PySem.Value.int (0 : Int) (0 : Nat), PySem.Value.int (0 : Int) (0 : Nat),
              PySem.Value.int (3 : Int) (0 : Nat), PySem.Value.ref (190 : Nat), PySem.Value.bool Bool.true,
              PySem.Value.int (181 : Int) (0 : Nat), PySem.Value.ref (191 : Nat), PySem.Value.none,
              PySem.Value.ref (192 : Nat), PySem.Value.ref (193 : Nat), PySem.Value.ref (194 : Nat),
              PySem.Value.int (473 : Int) (0 : Nat), PySem.Value.int (83 : Int) (0 : Nat),
              PySem.Value.str (PySem.Str.ofString "/claim/cut.py") (474 : Nat)] })) ::
    ((nat_lit 196,
      { cls := PySem.Value.type "function",
        data :=
          PySem.Data.func
            { name := PySem.Str.ofString "skip", qualname := PySem.Str.ofString "PathScanner.skip",
              params := pA23_4,
              body := PySem.FuncBody.stmts (pB23_4),
              scope := pS23_4, globals := (3 : Nat), closure := [],
              defaults := PySem.Value.none, kwdefaults := PySem.Value.none,
              pyModule := PySem.Value.str (PySem.Str.ofString "markupmill.xpath_words") (317 : Nat),
              code := PySem.Value.ref (195 : Nat) } })) ::
    ((nat_lit 197, { cls := PySem.Value.type "tuple", data := PySem.Data.seq #[] })) ::
    ((nat_lit 199,
      { cls := PySem.Value.type "tuple",
        data :=
          PySem.Data.seq
            #[PySem.Value.str (PySem.Str.ofString "self") (479 : Nat),
              PySem.Value.str (PySem.Str.ofString "word") (480 : Nat)] })) ::
    ((nat_lit 200, { cls := PySem.Value.type "tuple", data := PySem.Data.seq #[] })) ::
    ((nat_lit 202,
      { cls := PySem.Value.type "code",
        data :=
          PySem.Data.fields
            #[PySem.Value.str (PySem.Str.ofString "is_behind_operand") (476 : Nat),
              PySem.Value.str (PySem.Str.ofString "PathScanner.is_behind_operand") (477 : Nat),
              PySem.Value.str (PySem.Str.ofString "/claim/cut.py") (478 : Nat), PySem.Value.int (87 : Int) (0 : Nat),
              PySem.Value.int (1 : Int) (0 : Nat), PySem.Value.int (0 : Int) (0 : Nat), PySem.Value.int (0 : Int) (0 : Nat),
              PySem.Value.int (3 : Int) (0 : Nat), PySem.Value.ref (197 : Nat), PySem.Value.bool Bool.true,
              PySem.Value.int (181 : Int) (0 : Nat), PySem.Value.ref (198 : Nat), PySem.Value.none,
              PySem.Value.ref (199 : Nat), PySem.Value.ref (200 : Nat), PySem.Value.ref (201 : Nat),
              PySem.Value.int (481 : Int) (0 : Nat), PySem.Value.int (87 : Int) (0 : Nat),
              PySem.Value.str (PySem.Str.ofString "/claim/cut.py") (482 : Nat)] })) ::
    ((nat_lit 203,
      { cls := PySem.Value.type "function",
        data :=
          PySem.Data.func
            { name := PySem.Str.ofString "is_behind_operand",
              qualname := PySem.Str.ofString "PathScanner.is_behind_operand",
              params := pA23_5,
              body := PySem.FuncBody.stmts (pB23_5),
              scope := pS23_5, globals := (3 : Nat), closure := [],
              defaults := PySem.Value.none, kwdefaults := PySem.Value.none,
              pyModule := PySem.Value.str (PySem.Str.ofString "markupmill.xpath_words") (317 : Nat),
              code := PySem.Value.ref (202 : Nat) } })) ::
    ((nat_lit 204, { cls := PySem.Value.type "tuple", data := PySem.Data.seq #[] })) ::
    ((nat_lit 206,
      { cls := PySem.Value.type "tuple",
        data :=
          PySem.Data.seq
            #[PySem.Value.str (PySem.Str.ofString "self") (487 : Nat),
              PySem.Value.str (PySem.Str.ofString "sign") (488 : Nat)] })) ::
    ((nat_lit 207, { cls := PySem.Value.type "tuple", data := PySem.Data.seq #[] })) ::
    ((nat_lit 209,
      { cls := PySem.Value.type "code",
        data :=
          PySem.Data.fields
            #[PySem.Value.str (PySem.Str.ofString "step") (484 : Nat),
              PySem.Value.str (PySem.Str.ofString "PathScanner.step") (485 : Nat),
              PySem.Value.str (PySem.Str.ofString "/claim/cut.py") (486 : Nat), PySem.Value.int (95 : Int) (0 : Nat),
              PySem.Value.int (1 : Int) (0 : Nat), PySem.Value.int (0 : Int) (0 : Nat), PySem.Value.int (0 : Int) (0 : Nat),
              PySem.Value.int (3 : Int) (0 : Nat), PySem.Value.ref (204 : Nat), PySem.Value.bool Bool.true,
              PySem.Value.int (181 : Int) (0 : Nat), PySem.Value.ref (205 : Nat), PySem.Value.none,
              PySem.Value.ref (206 : Nat), PySem.Value.ref (207 : Nat), PySem.Value.ref (208 : Nat),
              PySem.Value.int (489 : Int) (0 : Nat), PySem.Value.int (95 : Int) (0 : Nat),
              PySem.Value.str (PySem.Str.ofString "/claim/cut.py") (490 : Nat)] })) ::
    ((nat_lit 210,
      { cls := PySem.Value.type "function",
        data :=
          PySem.Data.func
            { name := PySem.Str.ofString "step", qualname := PySem.Str.ofString "PathScanner.step",
              params := pA23_6,
              body := PySem.FuncBody.stmts (pB23_6),
              scope := pS23_6, globals := (3 : Nat), closure := [],
              defaults := PySem.Value.none, kwdefaults := PySem.Value.none,
              pyModule := PySem.Value.str (PySem.Str.ofString "markupmill.xpath_words") (317 : Nat),
              code := PySem.Value.ref (209 : Nat) } })) ::
    ((nat_lit 211, { cls := PySem.Value.type "tuple", data := PySem.Data.seq #[] })) ::
    ((nat_lit 213,
      { cls := PySem.Value.type "tuple",
        data :=
          PySem.Data.seq
            #[PySem.Value.str (PySem.Str.ofString "self") (495 : Nat),
              PySem.Value.str (PySem.Str.ofString "begin") (496 : Nat)] })) ::
    ((nat_lit 214, { cls := PySem.Value.type "tuple", data := PySem.Data.seq #[] })) ::
    ((nat_lit 216,
      { cls := PySem.Value.type "code",
        data :=
          PySem.Data.fields
            #[PySem.Value.str (PySem.Str.ofString "number") (492 : Nat),
              PySem.Value.str (PySem.Str.ofString "PathScanner.number") (493 : Nat),
              PySem.Value.str (PySem.Str.ofString "/claim/cut.py") (494 : Nat), PySem.Value.int (111 : Int) (0 : Nat),
              PySem.Value.int (1 : Int) (0 : Nat), PySem.Value.int (0 : Int) (0 : Nat), PySem.Value.int (0 : Int) (0 : Nat),
              PySem.Value.int (3 : Int) (0 : Nat), PySem.Value.ref (211 : Nat), PySem.Value.bool Bool.true,
              PySem.Value.int (181 : Int) (0 : Nat), PySem.Value.ref (212 : Nat), PySem.Value.none,
              PySem.Value.ref (213 : Nat), PySem.Value.ref (214 : Nat), PySem.Value.ref (215 : Nat),
              PySem.Value.int (497 : Int) (0 : Nat), PySem.Value.int (111 : Int) (0 : Nat),
              PySem.Value.str (PySem.Str.ofString "/claim/cut.py") (498 : Nat)] })) ::
    ((nat_lit 217,
      { cls := PySem.Value.type "function",
        data :=
          PySem.Data.func
            { name := PySem.Str.ofString "number", qualname := PySem.Str.ofString "PathScanner.number",
              params := pA23_7,
              body := PySem.FuncBody.stmts (pB23_7),
              scope := pS23_7, globals := (3 : Nat), closure := [],
              defaults := PySem.Value.none, kwdefaults := PySem.Value.none,
              pyModule := PySem.Value.str (PySem.Str.ofString "markupmill.xpath_words") (317 : Nat),
              code := PySem.Value.ref (216 : Nat) } })) ::
    ((nat_lit 218, { cls := PySem.Value.type "tuple", data := PySem.Data.seq #[] })) ::
    ((nat_lit 220,
      { cls := PySem.Value.type "tuple",
        data := PySem.Data.seq #[PySem.Value.str (PySem.Str.ofString "self") (503 : Nat)] })) ::
    ((nat_lit 221, { cls := PySem.Value.type "tuple", data := PySem.Data.seq #[] })) ::
    ((nat_lit 223,
      { cls := PySem.Value.type "code",
        data :=
          PySem.Data.fields
            #[PySem.Value.str (PySem.Str.ofString "figures") (500 : Nat),
              PySem.Value.str (PySem.Str.ofString "PathScanner.figures") (501 : Nat),
              PySem.Value.str (PySem.Str.ofString "/claim/cut.py") (502 : Nat), PySem.Value.int (119 : Int) (0 : Nat),
              PySem.Value.int (1 : Int) (0 : Nat), PySem.Value.int (0 : Int) (0 : Nat), PySem.Value.int (0 : Int) (0 : Nat),
              PySem.Value.int (3 : Int) (0 : Nat), PySem.Value.ref (218 : Nat), PySem.Value.bool Bool.true,
              PySem.Value.int (181 : Int) (0 : Nat), PySem.Value.ref (219 : Nat), PySem.Value.none,
              PySem.Value.ref (220 : Nat), PySem.Value.ref (221 : Nat), PySem.Value.ref (222 : Nat),
              PySem.Value.int (504 : Int) (0 : Nat), PySem.Value.int (119 : Int) (0 : Nat),
              PySem.Value.str (PySem.Str.ofString "/claim/cut.py") (505 : Nat)] })) ::
    ((nat_lit 224,
      { cls := PySem.Value.type "function",
        data :=
          PySem.Data.func
            { name := PySem.Str.ofString "figures", qualname := PySem.Str.ofString "PathScanner.figures",
              params := pA23_8,
              body := PySem.FuncBody.stmts (pB23_8),
              scope := pS23_8, globals := (3 : Nat), closure := [],
              defaults := PySem.Value.none, kwdefaults := PySem.Value.none,
              pyModule := PySem.Value.str (PySem.Str.ofString "markupmill.xpath_words") (317 : Nat),
              code := PySem.Value.ref (223 : Nat) } })) ::
    ((nat_lit 225, { cls := PySem.Value.type "tuple", data := PySem.Data.seq #[] })) ::
    ((nat_lit 227,
      { cls := PySem.Value.type "tuple",
        data :=
          PySem.Data.seq
            #[PySem.Value.str (PySem.Str.ofString "self") (510 : Nat),
              PySem.Value.str (PySem.Str.ofString "quote") (511 : Nat),
              PySem.Value.str (PySem.Str.ofString "begin") (512 : Nat),
              PySem.Value.str (PySem.Str.ofString "end") (513 : Nat)] })) ::
    ((nat_lit 228, { cls := PySem.Value.type "tuple", data := PySem.Data.seq #[] })) ::
    ((nat_lit 230,
      { cls := PySem.Value.type "code",
        data :=
          PySem.Data.fields
            #[PySem.Value.str (PySem.Str.ofString "literal") (507 : Nat),
              PySem.Value.str (PySem.Str.ofString "PathScanner.literal") (508 : Nat),
              PySem.Value.str (PySem.Str.ofString "/claim/cut.py") (509 : Nat), PySem.Value.int (123 : Int) (0 : Nat),
              PySem.Value.int (2 : Int) (0 : Nat), PySem.Value.int (0 : Int) (0 : Nat), PySem.Value.int (0 : Int) (0 : Nat),
              PySem.Value.int (3 : Int) (0 : Nat), PySem.Value.ref (225 : Nat), PySem.Value.bool Bool.true,
              PySem.Value.int (181 : Int) (0 : Nat), PySem.Value.ref (226 : Nat), PySem.Value.none,
              PySem.Value.ref (227 : Nat), PySem.Value.ref (228 : Nat), PySem.Value.ref (229 : Nat),
              PySem.Value.int (514 : Int) (0 : Nat), PySem.Value.int (123 : Int) (0 : Nat),
              PySem.Value.str (PySem.Str.ofString "/claim/cut.py") (515 : Nat)] })) ::
    ((nat_lit 231,
      { cls := PySem.Value.type "function",
        data :=
          PySem.Data.func
            { name := PySem.Str.ofString "literal", qualname := PySem.Str.ofString "PathScanner.literal",
              params := pA23_9,
              body := PySem.FuncBody.stmts (pB23_9),
              scope := pS23_9, globals := (3 : Nat), closure := [],
              defaults := PySem.Value.none, kwdefaults := PySem.Value.none,
              pyModule := PySem.Value.str (PySem.Str.ofString "markupmill.xpath_words") (317 : Nat),
              code := PySem.Value.ref (230 : Nat) } })) ::
    ((nat_lit 232, { cls := PySem.Value.type "tuple", data := PySem.Data.seq #[] })) ::
    ((nat_lit 234,
      { cls := PySem.Value.type "tuple",
        data :=
          PySem.Data.seq
            #[PySem.Value.str (PySem.Str.ofString "self") (520 : Nat),
              PySem.Value.str (PySem.Str.ofString "begin") (521 : Nat),
              PySem.Value.str (PySem.Str.ofString "name") (522 : Nat)] })) ::
    ((nat_lit 235, { cls := PySem.Value.type "tuple", data := PySem.Data.seq #[] })) ::
    ((nat_lit 237,
      { cls := PySem.Value.type "code",
        data :=
          PySem.Data.fields
            #[PySem.Value.str (PySem.Str.ofString "variable") (517 : Nat),
              PySem.Value.str (PySem.Str.ofString "PathScanner.variable") (518 : Nat),
              PySem.Value.str (PySem.Str.ofString "/claim/cut.py") (519 : Nat), PySem.Value.int (131 : Int) (0 : Nat),
              PySem.Value.int (1 : Int) (0 : Nat), PySem.Value.int (0 : Int) (0 : Nat), PySem.Value.int (0 : Int) (0 : Nat),
              PySem.Value.int (3 : Int) (0 : Nat), PySem.Value.ref (232 : Nat), PySem.Value.bool Bool.true,
              PySem.Value.int (181 : Int) (0 : Nat), PySem.Value.ref (233 : Nat), PySem.Value.none,
              PySem.Value.ref (234 : Nat), PySem.Value.ref (235 : Nat), PySem.Value.ref (236 : Nat),
              PySem.Value.int (523 : Int) (0 : Nat), PySem.Value.int (131 : Int) (0 : Nat),
              PySem.Value.str (PySem.Str.ofString "/claim/cut.py") (524 : Nat)] })) ::
    ((nat_lit 238,
      { cls := PySem.Value.type "function",
        data :=
          PySem.Data.func
            { name := PySem.Str.ofString "variable", qualname := PySem.Str.ofString "PathScanner.variable",
              params := pA23_10,
              body := PySem.FuncBody.stmts (pB23_10),
              scope := pS23_10, globals := (3 : Nat), closure := [],
              defaults := PySem.Value.none, kwdefaults := PySem.Value.none,
              pyModule := PySem.Value.str (PySem.Str.ofString "markupmill.xpath_words") (317 : Nat),
              code := PySem.Value.ref (237 : Nat) } })) ::
    ((nat_lit 239, { cls := PySem.Value.type "tuple", data := PySem.Data.seq #[] })) ::
    ((nat_lit 241,
      { cls := PySem.Value.type "tuple",
        data :=
          PySem.Data.seq
            #[PySem.Value.str (PySem.Str.ofString "self") (529 : Nat),
              PySem.Value.str (PySem.Str.ofString "begin") (530 : Nat)] })) ::
    ((nat_lit 242, { cls := PySem.Value.type "tuple", data := PySem.Data.seq #[] })) ::
    ((nat_lit 244,
      { cls := PySem.Value.type "code",
        data :=
          PySem.Data.fields
            #[PySem.Value.str (PySem.Str.ofString "plain_name") (526 : Nat),
              PySem.Value.str (PySem.Str.ofString "PathScanner.plain_name") (527 : Nat),
              PySem.Value.str (PySem.Str.ofString "/claim/cut.py") (528 : Nat), PySem.Value.int (139 : Int) (0 : Nat),
              PySem.Value.int (1 : Int) (0 : Nat), PySem.Value.int (0 : Int) (0 : Nat), PySem.Value.int (0 : Int) (0 : Nat),
              PySem.Value.int (3 : Int) (0 : Nat), PySem.Value.ref (239 : Nat), PySem.Value.bool Bool.true,
              PySem.Value.int (181 : Int) (0 : Nat), PySem.Value.ref (240 : Nat), PySem.Value.none,
              PySem.Value.ref (241 : Nat), PySem.Value.ref (242 : Nat), PySem.Value.ref (243 : Nat),
              PySem.Value.int (531 : Int) (0 : Nat), PySem.Value.int (139 : Int) (0 : Nat),
              PySem.Value.str (PySem.Str.ofString "/claim/cut.py") (532 : Nat)] })) ::
    ((nat_lit 245,
      { cls := PySem.Value.type "function",
        data :=
          PySem.Data.func
            { name := PySem.Str.ofString "plain_name", qualname := PySem.Str.ofString "PathScanner.plain_name",
              params := pA23_11,
              body := PySem.FuncBody.stmts (pB23_11),
              scope := pS23_11, globals := (3 : Nat), closure := [],
              defaults := PySem.Value.none, kwdefaults := PySem.Value.none,
              pyModule := PySem.Value.str (PySem.Str.ofString "markupmill.xpath_words") (317 : Nat),
              code := PySem.Value.ref (244 : Nat) } })) ::
    ((nat_lit 246, { cls := PySem.Value.type "tuple", data := PySem.Data.seq #[] })) ::
    ((nat_lit 248,
      { cls := PySem.Value.type "tuple",
        data :=
          PySem.Data.seq
            #[PySem.Value.str (PySem.Str.ofString "self") (537 : Nat),
              PySem.Value.str (PySem.Str.ofString "first") (538 : Nat),
              PySem.Value.str (PySem.Str.ofString "second") (539 : Nat)] })) ::
    ((nat_lit 249, { cls := PySem.Value.type "tuple", data := PySem.Data.seq #[] })) ::
    ((nat_lit 251,
      { cls := PySem.Value.type "code",
        data :=
          PySem.Data.fields
            #[PySem.Value.str (PySem.Str.ofString "qualified") (534 : Nat),
              PySem.Value.str (PySem.Str.ofString "PathScanner.qualified") (535 : Nat),
              PySem.Value.str (PySem.Str.ofString "/claim/cut.py") (536 : Nat), PySem.Value.int (147 : Int) (0 : Nat),
              PySem.Value.int (1 : Int) (0 : Nat), PySem.Value.int (0 : Int) (0 : Nat), PySem.Value.int (0 : Int) (0 : Nat),
              PySem.Value.int (3 : Int) (0 : Nat), PySem.Value.ref (246 : Nat), PySem.Value.bool Bool.true,
              PySem.Value.int (181 : Int) (0 : Nat), PySem.Value.ref (247 : Nat), PySem.Value.none,
              PySem.Value.ref (248 : Nat), PySem.Value.ref (249 : Nat), PySem.Value.ref (250 : Nat),
              PySem.Value.int (540 : Int) (0 : Nat), PySem.Value.int (147 : Int) (0 : Nat),
              PySem.Value.str (PySem.Str.ofString "/claim/cut.py") (541 : Nat)] })) ::
    ((nat_lit 252,
      { cls := PySem.Value.type "function",
        data :=
          PySem.Data.func
            { name := PySem.Str.ofString "qualified", qualname := PySem.Str.ofString "PathScanner.qualified",
              params := pA23_12,
              body := PySem.FuncBody.stmts (pB23_12),
              scope := pS23_12, globals := (3 : Nat), closure := [],
              defaults := PySem.Value.none, kwdefaults := PySem.Value.none,
              pyModule := PySem.Value.str (PySem.Str.ofString "markupmill.xpath_words") (317 : Nat),
              code := PySem.Value.ref (251 : Nat) } })) ::
    ((nat_lit 253, { cls := PySem.Value.type "tuple", data := PySem.Data.seq #[] })) ::
    ((nat_lit 255,
      { cls := PySem.Value.type "tuple",
        data :=
          PySem.Data.seq
            #[PySem.Value.str (PySem.Str.ofString "self") (546 : Nat),
              PySem.Value.str (PySem.Str.ofString "begin") (547 : Nat),
              PySem.Value.str (PySem.Str.ofString "word") (548 : Nat),
              PySem.Value.str (PySem.Str.ofString "behind") (549 : Nat)] })) ::
    ((nat_lit 256, { cls := PySem.Value.type "tuple", data := PySem.Data.seq #[] })) ::
    ((nat_lit 258,
      { cls := PySem.Value.type "code",
        data :=
          PySem.Data.fields
            #[PySem.Value.str (PySem.Str.ofString "name") (543 : Nat),
              PySem.Value.str (PySem.Str.ofString "PathScanner.name") (544 : Nat),
              PySem.Value.str (PySem.Str.ofString "/claim/cut.py") (545 : Nat), PySem.Value.int (160 : Int) (0 : Nat),
              PySem.Value.int (1 : Int) (0 : Nat), PySem.Value.int (0 : Int) (0 : Nat), PySem.Value.int (0 : Int) (0 : Nat),
              PySem.Value.int (3 : Int) (0 : Nat), PySem.Value.ref (253 : Nat), PySem.Value.bool Bool.true,
              PySem.Value.int (181 : Int) (0 : Nat), PySem.Value.ref (254 : Nat), PySem.Value.none,
              PySem.Value.ref (255 : Nat), PySem.Value.ref (256 : Nat), PySem.Value.ref (257 : Nat),
              PySem.Value.int (550 : Int) (0 : Nat), PySem.Value.int (160 : Int) (0 : Nat),
              PySem.Value.str (PySem.Str.ofString "/claim/cut.py") (551 : Nat)] })) ::
    ((nat_lit 259,
      { cls := PySem.Value.type "function",
        data :=
          PySem.Data.func
            { name := PySem.Str.ofString "name", qualname := PySem.Str.ofString "PathScanner.name",
              params := pA23_13,
              body := PySem.FuncBody.stmts (pB23_13),
              scope := pS23_13, globals := (3 : Nat), closure := [],
              defaults := PySem.Value.none, kwdefaults := PySem.Value.none,
              pyModule := PySem.Value.str (PySem.Str.ofString "markupmill.xpath_words") (317 : Nat),
              code := PySem.Value.ref (258 : Nat) } })) ::
    ((nat_lit 260, { cls := PySem.Value.type "tuple", data := PySem.Data.seq #[] })) ::
    ((nat_lit 262,
      { cls := PySem.Value.type "tuple",
        data :=
          PySem.Data.seq
            #[PySem.Value.str (PySem.Str.ofString "self") (556 : Nat),
              PySem.Value.str (PySem.Str.ofString "begin") (557 : Nat),
              PySem.Value.str (PySem.Str.ofString "text") (558 : Nat)] })) ::
    ((nat_lit 263, { cls := PySem.Value.type "tuple", data := PySem.Data.seq #[] })) ::
    ((nat_lit 265,
      { cls := PySem.Value.type "code",
        data :=
          PySem.Data.fields
            #[PySem.Value.str (PySem.Str.ofString "mark") (553 : Nat),
              PySem.Value.str (PySem.Str.ofString "PathScanner.mark") (554 : Nat),
              PySem.Value.str (PySem.Str.ofString "/claim/cut.py") (555 : Nat), PySem.Value.int (179 : Int) (0 : Nat),
              PySem.Value.int (1 : Int) (0 : Nat), PySem.Value.int (0 : Int) (0 : Nat), PySem.Value.int (0 : Int) (0 : Nat),
              PySem.Value.int (3 : Int) (0 : Nat), PySem.Value.ref (260 : Nat), PySem.Value.bool Bool.true,
              PySem.Value.int (181 : Int) (0 : Nat), PySem.Value.ref (261 : Nat), PySem.Value.none,
              PySem.Value.ref (262 : Nat), PySem.Value.ref (263 : Nat), PySem.Value.ref (264 : Nat),
              PySem.Value.int (559 : Int) (0 : Nat), PySem.Value.int (179 : Int) (0 : Nat),
              PySem.Value.str (PySem.Str.ofString "/claim/cut.py") (560 : Nat)] })) ::
    ((nat_lit 266,
      { cls := PySem.Value.type "function",
        data :=
          PySem.Data.func
            { name := PySem.Str.ofString "mark", qualname := PySem.Str.ofString "PathScanner.mark",
              params := pA23_14,
              body := PySem.FuncBody.stmts (pB23_14),
              scope := pS23_14, globals := (3 : Nat), closure := [],
              defaults := PySem.Value.none, kwdefaults := PySem.Value.none,
              pyModule := PySem.Value.str (PySem.Str.ofString "markupmill.xpath_words") (317 : Nat),
              code := PySem.Value.ref (265 : Nat) } })) ::
    ((nat_lit 267,
      { cls := PySem.Value.type "tuple",
        data :=
          PySem.Data.seq
            #[PySem.Value.str (PySem.Str.ofString "at") (562 : Nat),
              PySem.Value.str (PySem.Str.ofString "found") (563 : Nat),
              PySem.Value.str (PySem.Str.ofString "text") (564 : Nat)] })) ::
    ((nat_lit 268,
      { cls := PySem.Value.type "dict",
        data :=
          PySem.Data.dict
            #[{ hash := PySem.PyData.keyHash P (PySem.Str.ofString "__module__"),
                key := PySem.Value.str (PySem.Str.ofString "__module__") (429 : Nat),
                val := PySem.Value.str (PySem.Str.ofString "markupmill.xpath_words") (317 : Nat) },
              { hash := PySem.PyData.keyHash P (PySem.Str.ofString "__firstlineno__"),
                key := PySem.Value.str (PySem.Str.ofString "__firstlineno__") (433 : Nat),
                val := PySem.Value.int (61 : Int) (432 : Nat) },
              { hash := PySem.PyData.keyHash P (PySem.Str.ofString "__init__"),
                key := PySem.Value.str (PySem.Str.ofString "__init__") (441 : Nat), val := PySem.Value.ref (167 : Nat) },
              { hash := PySem.PyData.keyHash P (PySem.Str.ofString "sign"),
                key := PySem.Value.str (PySem.Str.ofString "sign") (451 : Nat), val := PySem.Value.ref (175 : Nat) },
              { hash := PySem.PyData.keyHash P (PySem.Str.ofString "add"),
                key := PySem.Value.str (PySem.Str.ofString "add") (461 : Nat), val := PySem.Value.ref (182 : Nat) },
              { hash := PySem.PyData.keyHash P (PySem.Str.ofString "run"),
                key := PySem.Value.str (PySem.Str.ofString "run") (468 : Nat), val := PySem.Value.ref (189 : Nat) },
              { hash := PySem.PyData.keyHash P (PySem.Str.ofString "skip"),
                key := PySem.Value.str (PySem.Str.ofString "skip") (475 : Nat), val := PySem.Value.ref (196 : Nat) },
              { hash := PySem.PyData.keyHash P (PySem.Str.ofString "is_behind_operand"),
                key := PySem.Value.str (PySem.Str.ofString "is_behind_operand") (483 : Nat),
                val := PySem.Value.ref (203 : Nat) },
              { hash := PySem.PyData.keyHash P (PySem.Str.ofString "step"),
                key := PySem.Value.str (PySem.Str.ofString "step") (491 : Nat), val := PySem.Value.ref (210 : Nat) },
              { hash := PySem.PyData.keyHash P (PySem.Str.ofString "number"),
                key := PySem.Value.str (PySem.Str.ofString "number") (499 : Nat), val := PySem.Value.ref (217 : Nat) },
              { hash := PySem.PyData.keyHash P (PySem.Str.ofString "figures"),
                key := PySem.Value.str (PySem.Str.ofString "figures") (506 : Nat), val := PySem.Value.ref (224 : Nat) },
              { hash := PySem.PyData.keyHash P (PySem.Str.ofString "literal"),
                key := PySem.Value.str (PySem.Str.ofString "literal") (516 : Nat), val := PySem.Value.ref (231 : Nat) },
              { hash := PySem.PyData.keyHash P (PySem.Str.ofString "variable"),
                key := PySem.Value.str (PySem.Str.ofString "variable") (525 : Nat), val := PySem.Value.ref (238 : Nat) },
              { hash := PySem.PyData.keyHash P (PySem.Str.ofString "plain_name"),
                key := PySem.Value.str (PySem.Str.ofString "plain_name") (533 : Nat), val := PySem.Value.ref (245 : Nat) },
              { hash := PySem.PyData.keyHash P (PySem.Str.ofString "qualified"),
                key := PySem.Value.str (PySem.Str.ofString "qualified") (542 : Nat), val := PySem.Value.ref (252 : Nat) },
              { hash := PySem.PyData.keyHash P (PySem.Str.ofString "name"),
                key := PySem.Value.str (PySem.Str.ofString "name") (552 : Nat), val := PySem.Value.ref (259 : Nat) },
              { hash := PySem.PyData.keyHash P (PySem.Str.ofString "mark"),
                key := PySem.Value.str (PySem.Str.ofString "mark") (561 : Nat), val := PySem.Value.ref (266 : Nat) },
              { hash := PySem.PyData.keyHash P (PySem.Str.ofString "__static_attributes__"),
                key := PySem.Value.str (PySem.Str.ofString "__static_attributes__") (565 : Nat),
                val := PySem.Value.ref (267 : Nat) },
              { hash := PySem.PyData.keyHash P (PySem.Str.ofString "__dict__"),
                key := PySem.Value.str (PySem.Str.ofString "__dict__") (567 : Nat), val := PySem.Value.ref (270 : Nat) },
              { hash := PySem.PyData.keyHash P (PySem.Str.ofString "__weakref__"),
                key := PySem.Value.str (PySem.Str.ofString "__weakref__") (569 : Nat), val := PySem.Value.ref (271 : Nat) },
              { hash := PySem.PyData.keyHash P (PySem.Str.ofString "__doc__"),
                key := PySem.Value.str (PySem.Str.ofString "__doc__") (570 : Nat), val := PySem.Value.none }]
            (4 : Nat) })) ::
    ((nat_lit 269,
      { cls := PySem.Value.type "type",
        data :=
          PySem.Data.cls
            { name := PySem.Str.ofString "PathScanner", bases := [PySem.Value.type "object"],
              mro := [PySem.Value.ref (269 : Nat), PySem.Value.type "object"], ns := (268 : Nat),
              qualname := PySem.Str.ofString "PathScanner" },
        slots :=
          #[Option.none, Option.none, Option.some (PySem.Value.str (PySem.Str.ofString "PathScanner") (422 : Nat)),
            Option.some (PySem.Value.str (PySem.Str.ofString "PathScanner") (430 : Nat)),
            Option.some (PySem.Value.builtin "object.__new__"), Option.some (PySem.Value.bool Bool.true)] })) ::
    ((nat_lit 270,
      { cls := PySem.Value.type "getset_descriptor",
        data :=
          PySem.Data.fields
            #[PySem.Value.str (PySem.Str.ofString "__dict__") (566 : Nat), PySem.Value.ref (269 : Nat),
              PySem.Value.builtin "function.__dict__", PySem.Value.builtin "function.__dict__#set"] })) ::
    ((nat_lit 271,
      { cls := PySem.Value.type "getset_descriptor",
        data :=
          PySem.Data.fields
            #[PySem.Value.str (PySem.Str.ofString "__weakref__") (568 : Nat), PySem.Value.ref (269 : Nat),
              PySem.Value.builtin "ExceptionGroup.__weakref__", PySem.Value.none] })) ::
    ((nat_lit 274, { cls := PySem.Value.type "tuple", data := PySem.Data.seq #[] })) ::
    ((nat_lit 276,
      { cls := PySem.Value.type "tuple",
        data := PySem.Data.seq #[PySem.Value.str (PySem.Str.ofString "text") (576 : Nat)] })) ::
    ((nat_lit 277, { cls := PySem.Value.type "tuple", data := PySem.Data.seq #[] })) ::
    ((nat_lit 279,
      { cls := PySem.Value.type "code",
        data :=
          PySem.Data.fields
            #[PySem.Value.str (PySem.Str.ofString "path_words") (573 : Nat),
              PySem.Value.str (PySem.Str.ofString "path_words") (574 : Nat),
              PySem.Value.str (PySem.Str.ofString "/claim/cut.py") (575 : Nat), PySem.Value.int (191 : Int) (0 : Nat),
              PySem.Value.int (1 : Int) (0 : Nat), PySem.Value.int (0 : Int) (0 : Nat), PySem.Value.int (0 : Int) (0 : Nat),
              PySem.Value.int (3 : Int) (0 : Nat), PySem.Value.ref (274 : Nat), PySem.Value.bool Bool.true,
              PySem.Value.int (181 : Int) (0 : Nat), PySem.Value.ref (275 : Nat), PySem.Value.none,
              PySem.Value.ref (276 : Nat), PySem.Value.ref (277 : Nat), PySem.Value.ref (278 : Nat),
              PySem.Value.int (577 : Int) (0 : Nat), PySem.Value.int (191 : Int) (0 : Nat),
              PySem.Value.str (PySem.Str.ofString "/claim/cut.py") (578 : Nat)] })) ::
    ((nat_lit 280,
      { cls := PySem.Value.type "function",
        data :=
          PySem.Data.func
            { name := PySem.Str.ofString "path_words", qualname := PySem.Str.ofString "path_words",
              params := pA24, body := PySem.FuncBody.stmts (pB24),
              scope := pS24, globals := (3 : Nat), closure := [], defaults := PySem.Value.none,
              kwdefaults := PySem.Value.none,
              pyModule := PySem.Value.str (PySem.Str.ofString "markupmill.xpath_words") (317 : Nat),
              code := PySem.Value.ref (279 : Nat) } })) ::
    ((nat_lit 281, { cls := PySem.Value.type "tuple", data := PySem.Data.seq #[] })) ::
    ((nat_lit 283,
      { cls := PySem.Value.type "tuple",
        data :=
          PySem.Data.seq
            #[PySem.Value.str (PySem.Str.ofString "script") (585 : Nat),
              PySem.Value.str (PySem.Str.ofString "cell") (586 : Nat),
              PySem.Value.str (PySem.Str.ofString "size") (587 : Nat)] })) ::
    ((nat_lit 284, { cls := PySem.Value.type "tuple", data := PySem.Data.seq #[] })) ::
    ((nat_lit 286,
      { cls := PySem.Value.type "code",
        data :=
          PySem.Data.fields
            #[PySem.Value.str (PySem.Str.ofString "_law_bag") (582 : Nat),
              PySem.Value.str (PySem.Str.ofString "_law_bag") (583 : Nat),
              PySem.Value.str (PySem.Str.ofString "/claim/cut.py") (584 : Nat), PySem.Value.int (194 : Int) (0 : Nat),
              PySem.Value.int (1 : Int) (0 : Nat), PySem.Value.int (0 : Int) (0 : Nat), PySem.Value.int (0 : Int) (0 : Nat),
              PySem.Value.int (3 : Int) (0 : Nat), PySem.Value.ref (281 : Nat), PySem.Value.bool Bool.true,
              PySem.Value.int (181 : Int) (0 : Nat), PySem.Value.ref (282 : Nat), PySem.Value.none,
              PySem.Value.ref (283 : Nat), PySem.Value.ref (284 : Nat), PySem.Value.ref (285 : Nat),
              PySem.Value.int (588 : Int) (0 : Nat), PySem.Value.int (194 : Int) (0 : Nat),
              PySem.Value.str (PySem.Str.ofString "/claim/cut.py") (589 : Nat)] })) ::
    ((nat_lit 287,
      { cls := PySem.Value.type "function",
        data :=
          PySem.Data.func
            { name := PySem.Str.ofString "_law_bag", qualname := PySem.Str.ofString "_law_bag",
              params := pA26, body := PySem.FuncBody.stmts (pB26),
              scope := pS26, globals := (3 : Nat), closure := [], defaults := PySem.Value.none,
              kwdefaults := PySem.Value.none, pyModule := PySem.Value.str (PySem.Str.ofString "law_xw0211_01") (580 : Nat),
              code := PySem.Value.ref (286 : Nat) } })) ::
    ((nat_lit 288, { cls := PySem.Value.type "tuple", data := PySem.Data.seq #[] })) ::
    ((nat_lit 290,
      { cls := PySem.Value.type "tuple",
        data :=
          PySem.Data.seq
            #[PySem.Value.str (PySem.Str.ofString "bag") (594 : Nat),
              PySem.Value.str (PySem.Str.ofString "top") (595 : Nat),
              PySem.Value.str (PySem.Str.ofString "figure") (596 : Nat)] })) ::
    ((nat_lit 291, { cls := PySem.Value.type "tuple", data := PySem.Data.seq #[] })) ::
    ((nat_lit 293,
      { cls := PySem.Value.type "code",
        data :=
          PySem.Data.fields
            #[PySem.Value.str (PySem.Str.ofString "_law_pick") (591 : Nat),
              PySem.Value.str (PySem.Str.ofString "_law_pick") (592 : Nat),
              PySem.Value.str (PySem.Str.ofString "/claim/cut.py") (593 : Nat), PySem.Value.int (198 : Int) (0 : Nat),
              PySem.Value.int (2 : Int) (0 : Nat), PySem.Value.int (0 : Int) (0 : Nat), PySem.Value.int (0 : Int) (0 : Nat),
              PySem.Value.int (3 : Int) (0 : Nat), PySem.Value.ref (288 : Nat), PySem.Value.bool Bool.true,
              PySem.Value.int (181 : Int) (0 : Nat), PySem.Value.ref (289 : Nat), PySem.Value.none,
              PySem.Value.ref (290 : Nat), PySem.Value.ref (291 : Nat), PySem.Value.ref (292 : Nat),
              PySem.Value.int (597 : Int) (0 : Nat), PySem.Value.int (198 : Int) (0 : Nat),
              PySem.Value.str (PySem.Str.ofString "/claim/cut.py") (598 : Nat)] })) ::
    ((nat_lit 294,
      { cls := PySem.Value.type "function",
        data :=
          PySem.Data.func
            { name := PySem.Str.ofString "_law_pick", qualname := PySem.Str.ofString "_law_pick",
              params := pA27, body := PySem.FuncBody.stmts (pB27),
              scope := pS27, globals := (3 : Nat), closure := [], defaults := PySem.Value.none,
              kwdefaults := PySem.Value.none, pyModule := PySem.Value.str (PySem.Str.ofString "law_xw0211_01") (580 : Nat),
              code := PySem.Value.ref (293 : Nat) } })) ::
    ((nat_lit 295, { cls := PySem.Value.type "tuple", data := PySem.Data.seq #[] })) ::
    ((nat_lit 297,
      { cls := PySem.Value.type "tuple",
        data :=
          PySem.Data.seq
            #[PySem.Value.str (PySem.Str.ofString "bag") (603 : Nat),
              PySem.Value.str (PySem.Str.ofString "things") (604 : Nat)] })) ::
    ((nat_lit 298, { cls := PySem.Value.type "tuple", data := PySem.Data.seq #[] })) ::
    ((nat_lit 300,
      { cls := PySem.Value.type "code",
        data :=
          PySem.Data.fields
            #[PySem.Value.str (PySem.Str.ofString "_law_one") (600 : Nat),
              PySem.Value.str (PySem.Str.ofString "_law_one") (601 : Nat),
              PySem.Value.str (PySem.Str.ofString "/claim/cut.py") (602 : Nat), PySem.Value.int (205 : Int) (0 : Nat),
              PySem.Value.int (2 : Int) (0 : Nat), PySem.Value.int (0 : Int) (0 : Nat), PySem.Value.int (0 : Int) (0 : Nat),
              PySem.Value.int (3 : Int) (0 : Nat), PySem.Value.ref (295 : Nat), PySem.Value.bool Bool.true,
              PySem.Value.int (181 : Int) (0 : Nat), PySem.Value.ref (296 : Nat), PySem.Value.none,
              PySem.Value.ref (297 : Nat), PySem.Value.ref (298 : Nat), PySem.Value.ref (299 : Nat),
              PySem.Value.int (605 : Int) (0 : Nat), PySem.Value.int (205 : Int) (0 : Nat),
              PySem.Value.str (PySem.Str.ofString "/claim/cut.py") (606 : Nat)] })) ::
    ((nat_lit 301,
      { cls := PySem.Value.type "function",
        data :=
          PySem.Data.func
            { name := PySem.Str.ofString "_law_one", qualname := PySem.Str.ofString "_law_one",
              params := pA28, body := PySem.FuncBody.stmts (pB28),
              scope := pS28, globals := (3 : Nat), closure := [], defaults := PySem.Value.none,
              kwdefaults := PySem.Value.none, pyModule := PySem.Value.str (PySem.Str.ofString "law_xw0211_01") (580 : Nat),
              code := PySem.Value.ref (300 : Nat) } })) ::
    ((nat_lit 302, { cls := PySem.Value.type "tuple", data := PySem.Data.seq #[] })) ::
    ((nat_lit 305,
      { cls := PySem.Value.type "code",
        data :=
          PySem.Data.fields
            #[PySem.Value.str (PySem.Str.ofString "_law_heard") (608 : Nat),
              PySem.Value.str (PySem.Str.ofString "_law_heard") (609 : Nat),
              PySem.Value.str (PySem.Str.ofString "/claim/cut.py") (610 : Nat), PySem.Value.int (207 : Int) (0 : Nat),
              PySem.Value.int (1 : Int) (0 : Nat), PySem.Value.int (0 : Int) (0 : Nat), PySem.Value.int (0 : Int) (0 : Nat),
              PySem.Value.int (3 : Int) (0 : Nat), PySem.Value.ref (302 : Nat), PySem.Value.bool Bool.true,
              PySem.Value.int (181 : Int) (0 : Nat), PySem.Value.ref (303 : Nat), PySem.Value.none, PySem.Value.none,
              PySem.Value.none, PySem.Value.ref (304 : Nat), PySem.Value.int (611 : Int) (0 : Nat),
              PySem.Value.int (207 : Int) (0 : Nat), PySem.Value.str (PySem.Str.ofString "/claim/cut.py") (612 : Nat)] })) ::
    ((nat_lit 306,
      { cls := PySem.Value.type "function",
        data :=
          PySem.Data.func
            { name := PySem.Str.ofString "_law_heard", qualname := PySem.Str.ofString "_law_heard",
              params := pA29, body := PySem.FuncBody.stmts (pB29),
              scope := pS29, globals := (3 : Nat), closure := [], defaults := PySem.Value.none,
              kwdefaults := PySem.Value.none, pyModule := PySem.Value.str (PySem.Str.ofString "law_xw0211_01") (580 : Nat),
              code := PySem.Value.ref (305 : Nat) } })) ::
    ((nat_lit 307, { cls := PySem.Value.type "tuple", data := PySem.Data.seq #[] })) ::
    ((nat_lit 309,
      { cls := PySem.Value.type "tuple",
        data :=
          PySem.Data.seq
            #[PySem.Value.str (PySem.Str.ofString "word") (617 : Nat),
              PySem.Value.str (PySem.Str.ofString "is_behind") (618 : Nat),
              PySem.Value.str (PySem.Str.ofString "at") (619 : Nat),
              PySem.Value.str (PySem.Str.ofString "following") (620 : Nat),
              PySem.Value.str (PySem.Str.ofString "plain") (621 : Nat)] })) ::
    ((nat_lit 310, { cls := PySem.Value.type "tuple", data := PySem.Data.seq #[] })) ::
    ((nat_lit 312,
      { cls := PySem.Value.type "code",
        data :=
          PySem.Data.fields
            #[PySem.Value.str (PySem.Str.ofString "_law_name") (614 : Nat),
              PySem.Value.str (PySem.Str.ofString "_law_name") (615 : Nat),
              PySem.Value.str (PySem.Str.ofString "/claim/cut.py") (616 : Nat), PySem.Value.int (212 : Int) (0 : Nat),
              PySem.Value.int (4 : Int) (0 : Nat), PySem.Value.int (0 : Int) (0 : Nat), PySem.Value.int (0 : Int) (0 : Nat),
              PySem.Value.int (3 : Int) (0 : Nat), PySem.Value.ref (307 : Nat), PySem.Value.bool Bool.true,
              PySem.Value.int (181 : Int) (0 : Nat), PySem.Value.ref (308 : Nat), PySem.Value.none,
              PySem.Value.ref (309 : Nat), PySem.Value.ref (310 : Nat), PySem.Value.ref (311 : Nat),
              PySem.Value.int (622 : Int) (0 : Nat), PySem.Value.int (212 : Int) (0 : Nat),
              PySem.Value.str (PySem.Str.ofString "/claim/cut.py") (623 : Nat)] })) ::
    ((nat_lit 313,
      { cls := PySem.Value.type "function",
        data :=
          PySem.Data.func
            { name := PySem.Str.ofString "_law_name", qualname := PySem.Str.ofString "_law_name",
              params := pA30, body := PySem.FuncBody.stmts (pB30),
              scope := pS30, globals := (3 : Nat), closure := [], defaults := PySem.Value.none,
              kwdefaults := PySem.Value.none, pyModule := PySem.Value.str (PySem.Str.ofString "law_xw0211_01") (580 : Nat),
              code := PySem.Value.ref (312 : Nat) } })) ::
    ((nat_lit 314, { cls := PySem.Value.type "tuple", data := PySem.Data.seq #[] })) ::
    ((nat_lit 316,
      { cls := PySem.Value.type "tuple",
        data :=
          PySem.Data.seq
            #[PySem.Value.str (PySem.Str.ofString "word") (628 : Nat),
              PySem.Value.str (PySem.Str.ofString "is_behind") (629 : Nat),
              PySem.Value.str (PySem.Str.ofString "at") (630 : Nat),
              PySem.Value.str (PySem.Str.ofString "following") (631 : Nat)] })) ::
    ((nat_lit 317, { cls := PySem.Value.type "tuple", data := PySem.Data.seq #[] })) ::
    ((nat_lit 319,
      { cls := PySem.Value.type "code",
        data :=
          PySem.Data.fields
            #[PySem.Value.str (PySem.Str.ofString "_law_row") (625 : Nat),
              PySem.Value.str (PySem.Str.ofString "_law_row") (626 : Nat),
              PySem.Value.str (PySem.Str.ofString "/claim/cut.py") (627 : Nat), PySem.Value.int (223 : Int) (0 : Nat),
              PySem.Value.int (4 : Int) (0 : Nat), PySem.Value.int (0 : Int) (0 : Nat), PySem.Value.int (0 : Int) (0 : Nat),
              PySem.Value.int (3 : Int) (0 : Nat), PySem.Value.ref (314 : Nat), PySem.Value.bool Bool.true,
              PySem.Value.int (181 : Int) (0 : Nat), PySem.Value.ref (315 : Nat), PySem.Value.none,
              PySem.Value.ref (316 : Nat), PySem.Value.ref (317 : Nat), PySem.Value.ref (318 : Nat),
              PySem.Value.int (632 : Int) (0 : Nat), PySem.Value.int (223 : Int) (0 : Nat),
              PySem.Value.str (PySem.Str.ofString "/claim/cut.py") (633 : Nat)] })) ::
    ((nat_lit 320,
      { cls := PySem.Value.type "function",
        data :=
          PySem.Data.func
            { name := PySem.Str.ofString "_law_row", qualname := PySem.Str.ofString "_law_row",
              params := pA31, body := PySem.FuncBody.stmts (pB31),
              scope := pS31, globals := (3 : Nat), closure := [], defaults := PySem.Value.none,
              kwdefaults := PySem.Value.none, pyModule := PySem.Value.str (PySem.Str.ofString "law_xw0211_01") (580 : Nat),
              code := PySem.Value.ref (319 : Nat) } })) ::
    ((nat_lit 321, { cls := PySem.Value.type "tuple", data := PySem.Data.seq #[] })) ::
    ((nat_lit 323,
      { cls := PySem.Value.type "tuple",
        data :=
          PySem.Data.seq
            #[PySem.Value.str (PySem.Str.ofString "words") (638 : Nat),
              PySem.Value.str (PySem.Str.ofString "gaps") (639 : Nat),
              PySem.Value.str (PySem.Str.ofString "text") (640 : Nat),
              PySem.Value.str (PySem.Str.ofString "due") (641 : Nat),
              PySem.Value.str (PySem.Str.ofString "is_behind") (642 : Nat),
              PySem.Value.str (PySem.Str.ofString "at") (643 : Nat),
              PySem.Value.str (PySem.Str.ofString "word") (644 : Nat),
              PySem.Value.str (PySem.Str.ofString "following") (645 : Nat),
              PySem.Value.str (PySem.Str.ofString "row") (646 : Nat),
              PySem.Value.str (PySem.Str.ofString "is_open") (647 : Nat)] })) ::
    ((nat_lit 324, { cls := PySem.Value.type "tuple", data := PySem.Data.seq #[] })) ::
    ((nat_lit 326,
      { cls := PySem.Value.type "code",
        data :=
          PySem.Data.fields
            #[PySem.Value.str (PySem.Str.ofString "_law_due") (635 : Nat),
              PySem.Value.str (PySem.Str.ofString "_law_due") (636 : Nat),
              PySem.Value.str (PySem.Str.ofString "/claim/cut.py") (637 : Nat), PySem.Value.int (239 : Int) (0 : Nat),
              PySem.Value.int (2 : Int) (0 : Nat), PySem.Value.int (0 : Int) (0 : Nat), PySem.Value.int (0 : Int) (0 : Nat),
              PySem.Value.int (3 : Int) (0 : Nat), PySem.Value.ref (321 : Nat), PySem.Value.bool Bool.true,
              PySem.Value.int (181 : Int) (0 : Nat), PySem.Value.ref (322 : Nat), PySem.Value.none,
              PySem.Value.ref (323 : Nat), PySem.Value.ref (324 : Nat), PySem.Value.ref (325 : Nat),
              PySem.Value.int (648 : Int) (0 : Nat), PySem.Value.int (239 : Int) (0 : Nat),
              PySem.Value.str (PySem.Str.ofString "/claim/cut.py") (649 : Nat)] })) ::
    ((nat_lit 327,
      { cls := PySem.Value.type "function",
        data :=
          PySem.Data.func
            { name := PySem.Str.ofString "_law_due", qualname := PySem.Str.ofString "_law_due",
              params := pA32, body := PySem.FuncBody.stmts (pB32),
              scope := pS32, globals := (3 : Nat), closure := [], defaults := PySem.Value.none,
              kwdefaults := PySem.Value.none, pyModule := PySem.Value.str (PySem.Str.ofString "law_xw0211_01") (580 : Nat),
              code := PySem.Value.ref (326 : Nat) } })) ::
    ((nat_lit 328, { cls := PySem.Value.type "tuple", data := PySem.Data.seq #[] })) ::
    ((nat_lit 330,
      { cls := PySem.Value.type "tuple",
        data :=
          PySem.Data.seq
            #[PySem.Value.str (PySem.Str.ofString "bag") (654 : Nat),
              PySem.Value.str (PySem.Str.ofString "way") (655 : Nat)] })) ::
    ((nat_lit 331, { cls := PySem.Value.type "tuple", data := PySem.Data.seq #[] })) ::
    ((nat_lit 333,
      { cls := PySem.Value.type "code",
        data :=
          PySem.Data.fields
            #[PySem.Value.str (PySem.Str.ofString "_law_word") (651 : Nat),
              PySem.Value.str (PySem.Str.ofString "_law_word") (652 : Nat),
              PySem.Value.str (PySem.Str.ofString "/claim/cut.py") (653 : Nat), PySem.Value.int (251 : Int) (0 : Nat),
              PySem.Value.int (1 : Int) (0 : Nat), PySem.Value.int (0 : Int) (0 : Nat), PySem.Value.int (0 : Int) (0 : Nat),
              PySem.Value.int (3 : Int) (0 : Nat), PySem.Value.ref (328 : Nat), PySem.Value.bool Bool.true,
              PySem.Value.int (181 : Int) (0 : Nat), PySem.Value.ref (329 : Nat), PySem.Value.none,
              PySem.Value.ref (330 : Nat), PySem.Value.ref (331 : Nat), PySem.Value.ref (332 : Nat),
              PySem.Value.int (656 : Int) (0 : Nat), PySem.Value.int (251 : Int) (0 : Nat),
              PySem.Value.str (PySem.Str.ofString "/claim/cut.py") (657 : Nat)] })) ::
    ((nat_lit 334,
      { cls := PySem.Value.type "function",
        data :=
          PySem.Data.func
            { name := PySem.Str.ofString "_law_word", qualname := PySem.Str.ofString "_law_word",
              params := pA33, body := PySem.FuncBody.stmts (pB33),
              scope := pS33, globals := (3 : Nat), closure := [], defaults := PySem.Value.none,
              kwdefaults := PySem.Value.none, pyModule := PySem.Value.str (PySem.Str.ofString "law_xw0211_01") (580 : Nat),
              code := PySem.Value.ref (333 : Nat) } })) ::
    ((nat_lit 335, { cls := PySem.Value.type "tuple", data := PySem.Data.seq #[] })) ::
    ((nat_lit 337,
      { cls := PySem.Value.type "tuple",
        data :=
          PySem.Data.seq
            #[PySem.Value.str (PySem.Str.ofString "words") (662 : Nat),
              PySem.Value.str (PySem.Str.ofString "gaps") (663 : Nat),
              PySem.Value.str (PySem.Str.ofString "text") (664 : Nat),
              PySem.Value.str (PySem.Str.ofString "due") (665 : Nat)] })) ::
    ((nat_lit 338, { cls := PySem.Value.type "tuple", data := PySem.Data.seq #[] })) ::
    ((nat_lit 340,
      { cls := PySem.Value.type "code",
        data :=
          PySem.Data.fields
            #[PySem.Value.str (PySem.Str.ofString "_law_right") (659 : Nat),
              PySem.Value.str (PySem.Str.ofString "_law_right") (660 : Nat),
              PySem.Value.str (PySem.Str.ofString "/claim/cut.py") (661 : Nat), PySem.Value.int (264 : Int) (0 : Nat),
              PySem.Value.int (2 : Int) (0 : Nat), PySem.Value.int (0 : Int) (0 : Nat), PySem.Value.int (0 : Int) (0 : Nat),
              PySem.Value.int (3 : Int) (0 : Nat), PySem.Value.ref (335 : Nat), PySem.Value.bool Bool.true,
              PySem.Value.int (181 : Int) (0 : Nat), PySem.Value.ref (336 : Nat), PySem.Value.none,
              PySem.Value.ref (337 : Nat), PySem.Value.ref (338 : Nat), PySem.Value.ref (339 : Nat),
              PySem.Value.int (666 : Int) (0 : Nat), PySem.Value.int (264 : Int) (0 : Nat),
              PySem.Value.str (PySem.Str.ofString "/claim/cut.py") (667 : Nat)] })) ::
    ((nat_lit 341,
      { cls := PySem.Value.type "function",
        data :=
          PySem.Data.func
            { name := PySem.Str.ofString "_law_right", qualname := PySem.Str.ofString "_law_right",
              params := pA34, body := PySem.FuncBody.stmts (pB34),
              scope := pS34, globals := (3 : Nat), closure := [], defaults := PySem.Value.none,
              kwdefaults := PySem.Value.none, pyModule := PySem.Value.str (PySem.Str.ofString "law_xw0211_01") (580 : Nat),
              code := PySem.Value.ref (340 : Nat) } })) ::
    ((nat_lit 342, { cls := PySem.Value.type "tuple", data := PySem.Data.seq #[] })) ::
    ((nat_lit 345,
      { cls := PySem.Value.type "code",
        data :=
          PySem.Data.fields
            #[PySem.Value.str (PySem.Str.ofString "law") (669 : Nat),
              PySem.Value.str (PySem.Str.ofString "law") (670 : Nat),
              PySem.Value.str (PySem.Str.ofString "/claim/cut.py") (671 : Nat), PySem.Value.int (267 : Int) (0 : Nat),
              PySem.Value.int (1 : Int) (0 : Nat), PySem.Value.int (0 : Int) (0 : Nat), PySem.Value.int (0 : Int) (0 : Nat),
              PySem.Value.int (3 : Int) (0 : Nat), PySem.Value.ref (342 : Nat), PySem.Value.bool Bool.true,
              PySem.Value.int (181 : Int) (0 : Nat), PySem.Value.ref (343 : Nat), PySem.Value.none, PySem.Value.none,
              PySem.Value.none, PySem.Value.ref (344 : Nat), PySem.Value.int (672 : Int) (0 : Nat),
              PySem.Value.int (267 : Int) (0 : Nat), PySem.Value.str (PySem.Str.ofString "/claim/cut.py") (673 : Nat)] })) ::
    ((nat_lit 346,
      { cls := PySem.Value.type "function",
        data :=
          PySem.Data.func
            { name := PySem.Str.ofString "law", qualname := PySem.Str.ofString "law",
              params := pA35, body := PySem.FuncBody.stmts (pB35),
              scope := pS35, globals := (3 : Nat), closure := [], defaults := PySem.Value.none,
              kwdefaults := PySem.Value.none, pyModule := PySem.Value.str (PySem.Str.ofString "law_xw0211_01") (580 : Nat),
              code := PySem.Value.ref (345 : Nat) } })) ::
    []
noncomputable def VV : Program := by
  refine (?g : (q0 : Stmt) → (q2 : Stmt) → (q3 : Stmt) → (q4 : Stmt) → (q5 : Stmt) → (q6 : Stmt) → (q7 : Stmt) → (q8 : Stmt) → (q9 : Stmt) → (q10 : Stmt) → (q12 : Stmt) → (q13 : Stmt) → (q15 : Stmt) → (q16 : Stmt) → (q17 : Stmt) → (q18 : Stmt) → (q19 : Stmt) → (q20 : Stmt) → (q21 : Stmt) → (q22 : Stmt) → (q23 : Stmt) → (q24 : Stmt) → (q26 : Stmt) → (q27 : Stmt) → (q28 : Stmt) → (q29 : Stmt) → (q30 : Stmt) → (q31 : Stmt) → (q32 : Stmt) → (q33 : Stmt) → (q34 : Stmt) → (q35 : Stmt) → q0 = sA 0 → q2 = sA 2 → q3 = sA 3 → q4 = sA 4 → q5 = sA 5 → q6 = sA 6 → q7 = sA 7 → q8 = sA 8 → q9 = sA 9 → q10 = sA 10 → q12 = sA 12 → q13 = sA 13 → q15 = sA 15 → q16 = sA 16 → q17 = sA 17 → q18 = sA 18 → q19 = sA 19 → q20 = sA 20 → q21 = sA 21 → q22 = sA 22 → q23 = sA 23 → q24 = sA 24 → q26 = sA 26 → q27 = sA 27 → q28 = sA 28 → q29 = sA 29 → q30 = sA 30 → q31 = sA 31 → q32 = sA 32 → q33 = sA 33 → q34 = sA 34 → q35 = sA 35 → Program) ?q0 ?q2 ?q3 ?q4 ?q5 ?q6 ?q7 ?q8 ?q9 ?q10 ?q12 ?q13 ?q15 ?q16 ?q17 ?q18 ?q19 ?q20 ?q21 ?q22 ?q23 ?q24 ?q26 ?q27 ?q28 ?q29 ?q30 ?q31 ?q32 ?q33 ?q34 ?q35 ?hq0 ?hq2 ?hq3 ?hq4 ?hq5 ?hq6 ?hq7 ?hq8 ?hq9 ?hq10 ?hq12 ?hq13 ?hq15 ?hq16 ?hq17 ?hq18 ?hq19 ?hq20 ?hq21 ?hq22 ?hq23 ?hq24 ?hq26 ?hq27 ?hq28 ?hq29 ?hq30 ?hq31 ?hq32 ?hq33 ?hq34 ?hq35
  case hq0 => (symm; dsimp only [sA, sC, fA, fB, fS, nthS, PySem.Challenge.pw_xw0211_01]; exact rfl)
  case hq2 => (symm; dsimp only [sA, sC, fA, fB, fS, nthS, PySem.Challenge.pw_xw0211_01]; exact rfl)
  case hq3 => (symm; dsimp only [sA, sC, fA, fB, fS, nthS, PySem.Challenge.pw_xw0211_01]; exact rfl)
  case hq4 => (symm; dsimp only [sA, sC, fA, fB, fS, nthS, PySem.Challenge.pw_xw0211_01]; exact rfl)
  case hq5 => (symm; dsimp only [sA, sC, fA, fB, fS, nthS, PySem.Challenge.pw_xw0211_01]; exact rfl)
  case hq6 => (symm; dsimp only [sA, sC, fA, fB, fS, nthS, PySem.Challenge.pw_xw0211_01]; exact rfl)
  case hq7 => (symm; dsimp only [sA, sC, fA, fB, fS, nthS, PySem.Challenge.pw_xw0211_01]; exact rfl)
  case hq8 => (symm; dsimp only [sA, sC, fA, fB, fS, nthS, PySem.Challenge.pw_xw0211_01]; exact rfl)
  case hq9 => (symm; dsimp only [sA, sC, fA, fB, fS, nthS, PySem.Challenge.pw_xw0211_01]; exact rfl)
  case hq10 => (symm; dsimp only [sA, sC, fA, fB, fS, nthS, PySem.Challenge.pw_xw0211_01]; exact rfl)
  case hq12 => (symm; dsimp only [sA, sC, fA, fB, fS, nthS, PySem.Challenge.pw_xw0211_01]; exact rfl)
  case hq13 => (symm; dsimp only [sA, sC, fA, fB, fS, nthS, PySem.Challenge.pw_xw0211_01]; exact rfl)
  case hq15 => (symm; dsimp only [sA, sC, fA, fB, fS, nthS, PySem.Challenge.pw_xw0211_01]; exact rfl)
  case hq16 => (symm; dsimp only [sA, sC, fA, fB, fS, nthS, PySem.Challenge.pw_xw0211_01]; exact rfl)
  case hq17 => (symm; dsimp only [sA, sC, fA, fB, fS, nthS, PySem.Challenge.pw_xw0211_01]; exact rfl)
  case hq18 => (symm; dsimp only [sA, sC, fA, fB, fS, nthS, PySem.Challenge.pw_xw0211_01]; exact rfl)
  case hq19 => (symm; dsimp only [sA, sC, fA, fB, fS, nthS, PySem.Challenge.pw_xw0211_01]; exact rfl)
  case hq20 => (symm; dsimp only [sA, sC, fA, fB, fS, nthS, PySem.Challenge.pw_xw0211_01]; exact rfl)
  case hq21 => (symm; dsimp only [sA, sC, fA, fB, fS, nthS, PySem.Challenge.pw_xw0211_01]; exact rfl)
  case hq22 => (symm; dsimp only [sA, sC, fA, fB, fS, nthS, PySem.Challenge.pw_xw0211_01]; exact rfl)
  case hq23 => (symm; dsimp only [sA, sC, fA, fB, fS, nthS, PySem.Challenge.pw_xw0211_01]; exact rfl)
  case hq24 => (symm; dsimp only [sA, sC, fA, fB, fS, nthS, PySem.Challenge.pw_xw0211_01]; exact rfl)
  case hq26 => (symm; dsimp only [sA, sC, fA, fB, fS, nthS, PySem.Challenge.pw_xw0211_01]; exact rfl)
  case hq27 => (symm; dsimp only [sA, sC, fA, fB, fS, nthS, PySem.Challenge.pw_xw0211_01]; exact rfl)
  case hq28 => (symm; dsimp only [sA, sC, fA, fB, fS, nthS, PySem.Challenge.pw_xw0211_01]; exact rfl)
  case hq29 => (symm; dsimp only [sA, sC, fA, fB, fS, nthS, PySem.Challenge.pw_xw0211_01]; exact rfl)
  case hq30 => (symm; dsimp only [sA, sC, fA, fB, fS, nthS, PySem.Challenge.pw_xw0211_01]; exact rfl)
  case hq31 => (symm; dsimp only [sA, sC, fA, fB, fS, nthS, PySem.Challenge.pw_xw0211_01]; exact rfl)
  case hq32 => (symm; dsimp only [sA, sC, fA, fB, fS, nthS, PySem.Challenge.pw_xw0211_01]; exact rfl)
  case hq33 => (symm; dsimp only [sA, sC, fA, fB, fS, nthS, PySem.Challenge.pw_xw0211_01]; exact rfl)
  case hq34 => (symm; dsimp only [sA, sC, fA, fB, fS, nthS, PySem.Challenge.pw_xw0211_01]; exact rfl)
  case hq35 => (symm; dsimp only [sA, sC, fA, fB, fS, nthS, PySem.Challenge.pw_xw0211_01]; exact rfl)
  case g => exact fun q0 q2 q3 q4 q5 q6 q7 q8 q9 q10 q12 q13 q15 q16 q17 q18 q19 q20 q21 q22 q23 q24 q26 q27 q28 q29 q30 q31 q32 q33 q34 q35 _ _ _ _ _ _ _ _ _ _ _ _ _ _ _ _ _ _ _ _ _ _ _ _ _ _ _ _ _ _ _ _ =>
    let __src := PySem.Challenge.rw_xw0211_01.row.toRowW.1;
    {
      main :=
        let __src := PySem.Challenge.rw_xw0211_01.row.toRowW.1.main;
        {
          body :=
            [q0, q2, q3, q4, q5,
              q6, q7, q8, q9, q10,
              q12, q13, q15, q16, q17,
              q18, q19, q20, q21, q22,
              q23, q24, q26, q27, q28,
              q29, q30, q31, q32, q33,
              q34, q35],
          scope := __src.scope, futureAnnotations := __src.futureAnnotations, file := __src.file, more := __src.more },
      modules := __src.modules, parses := __src.parses, absent := __src.absent, harvested := __src.harvested,
      given := __src.given }

-- GH
section
open PySem PySem.W PyProof.Rows PySem.Calls
noncomputable abbrev Hk : Hook := kHook KV [2, 3, 15, 17, 18, 20, 21, 22, 23, 24, 25, 26, 27, 28, 29, 30, 31, 32, 33, 34, 35, 36, 37, 38, 39, 41, 42, 44, 45, 46, 48, 49, 51, 52, 53, 55, 56, 58, 59, 60, 62, 63, 65, 66, 67, 69, 70, 72, 73, 74, 81, 83, 84, 86, 87, 88, 89, 90, 91, 94, 101, 102, 103, 106, 107, 108, 109, 110, 111, 119, 121, 122, 124, 125, 126, 128, 129, 131, 132, 133, 135, 136, 138, 139, 140, 142, 143, 145, 146, 147, 148, 149, 150, 151, 161, 163, 164, 166, 167, 168, 169, 171, 172, 174, 175, 176, 178, 179, 181, 182, 183, 185, 186, 188, 189, 190, 192, 193, 195, 196, 197, 199, 200, 202, 203, 204, 206, 207, 209, 210, 211, 213, 214, 216, 217, 218, 220, 221, 223, 224, 225, 227, 228, 230, 231, 232, 234, 235, 237, 238, 239, 241, 242, 244, 245, 246, 248, 249, 251, 252, 253, 255, 256, 258, 259, 260, 262, 263, 265, 266, 267, 268, 269, 270, 271, 274, 276, 277, 279, 280, 281, 283, 284, 286, 287, 288, 290, 291, 293, 294, 295, 297, 298, 300, 301, 302, 305, 306, 307, 309, 310, 312, 313, 314, 316, 317, 319, 320, 321, 323, 324, 326, 327, 328, 330, 331, 333, 334, 335, 337, 338, 340, 341, 342, 345, 346] (fun _ => by kernel_rfl)
noncomputable abbrev Rr : RowW := PySem.Challenge.rw_xw0211_01.row.toRowW
noncomputable abbrev pw : Program := PySem.Challenge.pw_xw0211_01
/-- the objects that the walk does not know -/
noncomputable def oth (P : Params) : Frag := [
  (0, boot_o_0 P),
  (1, boot_o_1 P),
  (4, boot_o_4 P),
  (5, boot_o_5 P),
  (6, boot_o_6 P),
  (7, boot_o_7 P),
  (8, boot_o_8 P),
  (9, boot_o_9 P),
  (10, boot_o_10 P),
  (11, { cls := Value.type "tuple", data := Data.seq #[] }),
  (12, { cls := Value.none, data := Data.fields #[Value.int 1 0, Value.int 0 0, Value.ref 20, Value.int 9 0, Value.int 0 0, Value.ref 44, Value.int 16 0, Value.int 0 0, Value.ref 51, Value.int 18 0, Value.int 0 0, Value.ref 58, Value.int 20 0, Value.int 0 0, Value.ref 65, Value.int 24 0, Value.int 0 0, Value.ref 72, Value.int 31 0, Value.int 0 0, Value.ref 79, Value.int 36 0, Value.int 0 0, Value.ref 99, Value.int 46 0, Value.int 0 0, Value.ref 117, Value.int 61 0, Value.int 0 0, Value.ref 159, Value.int 191 0, Value.int 0 0, Value.ref 279, Value.int 194 0, Value.int 0 0, Value.ref 286, Value.int 198 0, Value.int 0 0, Value.ref 293, Value.int 205 0, Value.int 0 0, Value.ref 300, Value.int 207 0, Value.int 0 0, Value.ref 305, Value.int 212 0, Value.int 0 0, Value.ref 312, Value.int 223 0, Value.int 0 0, Value.ref 319, Value.int 239 0, Value.int 0 0, Value.ref 326, Value.int 251 0, Value.int 0 0, Value.ref 333, Value.int 264 0, Value.int 0 0, Value.ref 340, Value.int 267 0, Value.int 0 0, Value.ref 345] }),
  (13, { cls := Value.type "code", data := Data.fields #[Value.str (Str.ofString "<module>") 182, Value.str (Str.ofString "<module>") 183, Value.str (Str.ofString "/claim/cut.py") 184, Value.int 1 0, Value.int 0 0, Value.int 0 0, Value.int 0 0, Value.int 0 0, Value.ref 11, Value.bool Bool.false, Value.int 181 0, Value.ref 12, Value.none, Value.none, Value.none, Value.none, Value.int 185 0, Value.int 1 0, Value.str (Str.ofString "/claim/cut.py") 186] }),
  (14, { cls := Value.type "frame", slots := #[Option.some (Value.ref 13), Option.some (Value.ref 3), Option.some (Value.ref 3), Option.none, Option.some (Value.str (Str.ofString "__main__") 164), Option.none, Option.some (Value.ref 0)] }),
  (16, { cls := Value.none, data := Data.fields #[] }),
  (19, { cls := Value.none, data := Data.func { name := Str.ofString "_wall", qualname := Str.ofString "_wall", params := fA (sA 0), body := FuncBody.stmts (fB (sA 0)), scope := fS (sA 0), globals := 0, closure := [], defaults := Value.none, kwdefaults := Value.none } }),
  (40, { cls := Value.none, data := Data.fields #[] }),
  (43, { cls := Value.none, data := Data.func { name := Str.ofString "is_in_ranges", qualname := Str.ofString "is_in_ranges", params := fA (sA 6), body := FuncBody.stmts (fB (sA 6)), scope := fS (sA 6), globals := 0, closure := [], defaults := Value.none, kwdefaults := Value.none } }),
  (47, { cls := Value.none, data := Data.fields #[] }),
  (50, { cls := Value.none, data := Data.func { name := Str.ofString "is_space", qualname := Str.ofString "is_space", params := fA (sA 7), body := FuncBody.stmts (fB (sA 7)), scope := fS (sA 7), globals := 0, closure := [], defaults := Value.none, kwdefaults := Value.none } }),
  (54, { cls := Value.none, data := Data.fields #[] }),
  (57, { cls := Value.none, data := Data.func { name := Str.ofString "is_small_letter", qualname := Str.ofString "is_small_letter", params := fA (sA 8), body := FuncBody.stmts (fB (sA 8)), scope := fS (sA 8), globals := 0, closure := [], defaults := Value.none, kwdefaults := Value.none } }),
  (61, { cls := Value.none, data := Data.fields #[] }),
  (64, { cls := Value.none, data := Data.func { name := Str.ofString "is_name_start", qualname := Str.ofString "is_name_start", params := fA (sA 9), body := FuncBody.stmts (fB (sA 9)), scope := fS (sA 9), globals := 0, closure := [], defaults := Value.none, kwdefaults := Value.none } }),
  (68, { cls := Value.none, data := Data.fields #[] }),
  (71, { cls := Value.none, data := Data.func { name := Str.ofString "is_name_char", qualname := Str.ofString "is_name_char", params := fA (sA 10), body := FuncBody.stmts (fB (sA 10)), scope := fS (sA 10), globals := 0, closure := [], defaults := Value.none, kwdefaults := Value.none } }),
  (75, { cls := Value.type "builtin_function_or_method", data := Data.fields #[Value.builtin "type.__prepare__", Value.type "type"] }),
  (76, { cls := Value.type "dict", data := Data.dict #[{ hash := PyData.keyHash P (Str.ofString "__module__"), key := Value.str (Str.ofString "__module__") 279, val := Value.str (Str.ofString "markupmill.errors") 270 }, { hash := PyData.keyHash P (Str.ofString "__qualname__"), key := Value.str (Str.ofString "__qualname__") 281, val := Value.str (Str.ofString "MarkupError") 280 }, { hash := PyData.keyHash P (Str.ofString "__firstlineno__"), key := Value.str (Str.ofString "__firstlineno__") 283, val := Value.int 31 282 }, { hash := PyData.keyHash P (Str.ofString "__init__"), key := Value.str (Str.ofString "__init__") 291, val := Value.ref 87 }, { hash := PyData.keyHash P (Str.ofString "__static_attributes__"), key := Value.str (Str.ofString "__static_attributes__") 293, val := Value.ref 88 }] 5 }),
  (77, { cls := Value.type "tuple", data := Data.seq #[] }),
  (78, { cls := Value.none, data := Data.fields #[Value.int 33 0, Value.int 4 0, Value.ref 86] }),
  (79, { cls := Value.type "code", data := Data.fields #[Value.str (Str.ofString "MarkupError") 274, Value.str (Str.ofString "MarkupError") 275, Value.str (Str.ofString "/claim/cut.py") 276, Value.int 31 0, Value.int 0 0, Value.int 0 0, Value.int 0 0, Value.int 0 0, Value.ref 77, Value.bool Bool.false, Value.int 181 0, Value.ref 78, Value.none, Value.none, Value.none, Value.none, Value.int 277 0, Value.int 31 0, Value.str (Str.ofString "/claim/cut.py") 278] }),
  (80, { cls := Value.type "frame", slots := #[Option.some (Value.ref 79), Option.some (Value.ref 3), Option.some (Value.ref 76), Option.none, Option.some (Value.str (Str.ofString "markupmill.errors") 270), Option.none, Option.some (Value.ref 0)] }),
  (82, { cls := Value.none, data := Data.fields #[] }),
  (85, { cls := Value.none, data := Data.func { name := Str.ofString "__init__", qualname := Str.ofString "MarkupError.__init__", params := fA (sC 12 0), body := FuncBody.stmts (fB (sC 12 0)), scope := fS (sC 12 0), globals := 0, closure := [], defaults := Value.none, kwdefaults := Value.none } }),
  (92, { cls := Value.type "super", data := Data.fields #[Value.ref 90, Value.ref 90, Value.ref 90] }),
  (93, { cls := Value.type "builtin_function_or_method", data := Data.fields #[Value.builtin "object.__init_subclass__", Value.ref 90] }),
  (95, { cls := Value.type "builtin_function_or_method", data := Data.fields #[Value.builtin "type.__prepare__", Value.type "type"] }),
  (96, { cls := Value.type "dict", data := Data.dict #[{ hash := PyData.keyHash P (Str.ofString "__module__"), key := Value.str (Str.ofString "__module__") 308, val := Value.str (Str.ofString "markupmill.errors") 270 }, { hash := PyData.keyHash P (Str.ofString "__qualname__"), key := Value.str (Str.ofString "__qualname__") 310, val := Value.str (Str.ofString "PathFault") 309 }, { hash := PyData.keyHash P (Str.ofString "__firstlineno__"), key := Value.str (Str.ofString "__firstlineno__") 312, val := Value.int 36 311 }, { hash := PyData.keyHash P (Str.ofString "__static_attributes__"), key := Value.str (Str.ofString "__static_attributes__") 313, val := Value.ref 101 }] 4 }),
  (97, { cls := Value.type "tuple", data := Data.seq #[] }),
  (98, { cls := Value.none, data := Data.fields #[] }),
  (99, { cls := Value.type "code", data := Data.fields #[Value.str (Str.ofString "PathFault") 303, Value.str (Str.ofString "PathFault") 304, Value.str (Str.ofString "/claim/cut.py") 305, Value.int 36 0, Value.int 0 0, Value.int 0 0, Value.int 0 0, Value.int 0 0, Value.ref 97, Value.bool Bool.false, Value.int 181 0, Value.ref 98, Value.none, Value.none, Value.none, Value.none, Value.int 306 0, Value.int 36 0, Value.str (Str.ofString "/claim/cut.py") 307] }),
  (100, { cls := Value.type "frame", slots := #[Option.some (Value.ref 99), Option.some (Value.ref 3), Option.some (Value.ref 96), Option.none, Option.some (Value.str (Str.ofString "markupmill.errors") 270), Option.none, Option.some (Value.ref 0)] }),
  (104, { cls := Value.type "super", data := Data.fields #[Value.ref 103, Value.ref 103, Value.ref 103] }),
  (105, { cls := Value.type "builtin_function_or_method", data := Data.fields #[Value.builtin "object.__init_subclass__", Value.ref 103] }),
  (112, { cls := Value.type "tuple", data := Data.seq #[] }),
  (113, { cls := Value.type "builtin_function_or_method", data := Data.fields #[Value.builtin "type.__prepare__", Value.type "type"] }),
  (114, { cls := Value.type "dict", data := Data.dict #[{ hash := PyData.keyHash P (Str.ofString "__module__"), key := Value.str (Str.ofString "__module__") 373, val := Value.str (Str.ofString "markupmill.xpath_words") 317 }, { hash := PyData.keyHash P (Str.ofString "__qualname__"), key := Value.str (Str.ofString "__qualname__") 375, val := Value.str (Str.ofString "Word") 374 }, { hash := PyData.keyHash P (Str.ofString "__firstlineno__"), key := Value.str (Str.ofString "__firstlineno__") 377, val := Value.int 46 376 }, { hash := PyData.keyHash P (Str.ofString "__init__"), key := Value.str (Str.ofString "__init__") 387, val := Value.ref 125 }, { hash := PyData.keyHash P (Str.ofString "is_sign"), key := Value.str (Str.ofString "is_sign") 395, val := Value.ref 132 }, { hash := PyData.keyHash P (Str.ofString "is_operator"), key := Value.str (Str.ofString "is_operator") 403, val := Value.ref 139 }, { hash := PyData.keyHash P (Str.ofString "row"), key := Value.str (Str.ofString "row") 410, val := Value.ref 146 }, { hash := PyData.keyHash P (Str.ofString "__static_attributes__"), key := Value.str (Str.ofString "__static_attributes__") 414, val := Value.ref 147 }] 8 }),
  (115, { cls := Value.type "tuple", data := Data.seq #[] }),
  (116, { cls := Value.none, data := Data.fields #[Value.int 48 0, Value.int 4 0, Value.ref 124, Value.int 53 0, Value.int 4 0, Value.ref 131, Value.int 56 0, Value.int 4 0, Value.ref 138, Value.int 59 0, Value.int 4 0, Value.ref 145] }),
  (117, { cls := Value.type "code", data := Data.fields #[Value.str (Str.ofString "Word") 368, Value.str (Str.ofString "Word") 369, Value.str (Str.ofString "/claim/cut.py") 370, Value.int 46 0, Value.int 0 0, Value.int 0 0, Value.int 0 0, Value.int 0 0, Value.ref 115, Value.bool Bool.false, Value.int 181 0, Value.ref 116, Value.none, Value.none, Value.none, Value.none, Value.int 371 0, Value.int 46 0, Value.str (Str.ofString "/claim/cut.py") 372] }),
  (118, { cls := Value.type "frame", slots := #[Option.some (Value.ref 117), Option.some (Value.ref 3), Option.some (Value.ref 114), Option.none, Option.some (Value.str (Str.ofString "markupmill.xpath_words") 317), Option.none, Option.some (Value.ref 0)] }),
  (120, { cls := Value.none, data := Data.fields #[] }),
  (123, { cls := Value.none, data := Data.func { name := Str.ofString "__init__", qualname := Str.ofString "Word.__init__", params := fA (sC 22 0), body := FuncBody.stmts (fB (sC 22 0)), scope := fS (sC 22 0), globals := 0, closure := [], defaults := Value.none, kwdefaults := Value.none } }),
  (127, { cls := Value.none, data := Data.fields #[] }),
  (130, { cls := Value.none, data := Data.func { name := Str.ofString "is_sign", qualname := Str.ofString "Word.is_sign", params := fA (sC 22 1), body := FuncBody.stmts (fB (sC 22 1)), scope := fS (sC 22 1), globals := 0, closure := [], defaults := Value.none, kwdefaults := Value.none } }),
  (134, { cls := Value.none, data := Data.fields #[] }),
  (137, { cls := Value.none, data := Data.func { name := Str.ofString "is_operator", qualname := Str.ofString "Word.is_operator", params := fA (sC 22 2), body := FuncBody.stmts (fB (sC 22 2)), scope := fS (sC 22 1), globals := 0, closure := [], defaults := Value.none, kwdefaults := Value.none } }),
  (141, { cls := Value.none, data := Data.fields #[] }),
  (144, { cls := Value.none, data := Data.func { name := Str.ofString "row", qualname := Str.ofString "Word.row", params := fA (sC 22 3), body := FuncBody.stmts (fB (sC 22 3)), scope := fS (sC 22 3), globals := 0, closure := [], defaults := Value.none, kwdefaults := Value.none } }),
  (152, { cls := Value.type "super", data := Data.fields #[Value.ref 149, Value.ref 149, Value.ref 149] }),
  (153, { cls := Value.type "builtin_function_or_method", data := Data.fields #[Value.builtin "object.__init_subclass__", Value.ref 149] }),
  (154, { cls := Value.type "tuple", data := Data.seq #[] }),
  (155, { cls := Value.type "builtin_function_or_method", data := Data.fields #[Value.builtin "type.__prepare__", Value.type "type"] }),
  (156, { cls := Value.type "dict", data := Data.dict #[{ hash := PyData.keyHash P (Str.ofString "__module__"), key := Value.str (Str.ofString "__module__") 429, val := Value.str (Str.ofString "markupmill.xpath_words") 317 }, { hash := PyData.keyHash P (Str.ofString "__qualname__"), key := Value.str (Str.ofString "__qualname__") 431, val := Value.str (Str.ofString "PathScanner") 430 }, { hash := PyData.keyHash P (Str.ofString "__firstlineno__"), key := Value.str (Str.ofString "__firstlineno__") 433, val := Value.int 61 432 }, { hash := PyData.keyHash P (Str.ofString "__init__"), key := Value.str (Str.ofString "__init__") 441, val := Value.ref 167 }, { hash := PyData.keyHash P (Str.ofString "sign"), key := Value.str (Str.ofString "sign") 451, val := Value.ref 175 }, { hash := PyData.keyHash P (Str.ofString "add"), key := Value.str (Str.ofString "add") 461, val := Value.ref 182 }, { hash := PyData.keyHash P (Str.ofString "run"), key := Value.str (Str.ofString "run") 468, val := Value.ref 189 }, { hash := PyData.keyHash P (Str.ofString "skip"), key := Value.str (Str.ofString "skip") 475, val := Value.ref 196 }, { hash := PyData.keyHash P (Str.ofString "is_behind_operand"), key := Value.str (Str.ofString "is_behind_operand") 483, val := Value.ref 203 }, { hash := PyData.keyHash P (Str.ofString "step"), key := Value.str (Str.ofString "step") 491, val := Value.ref 210 }, { hash := PyData.keyHash P (Str.ofString "number"), key := Value.str (Str.ofString "number") 499, val := Value.ref 217 }, { hash := PyData.keyHash P (Str.ofString "figures"), key := Value.str (Str.ofString "figures") 506, val := Value.ref 224 }, { hash := PyData.keyHash P (Str.ofString "literal"), key := Value.str (Str.ofString "literal") 516, val := Value.ref 231 }, { hash := PyData.keyHash P (Str.ofString "variable"), key := Value.str (Str.ofString "variable") 525, val := Value.ref 238 }, { hash := PyData.keyHash P (Str.ofString "plain_name"), key := Value.str (Str.ofString "plain_name") 533, val := Value.ref 245 }, { hash := PyData.keyHash P (Str.ofString "qualified"), key := Value.str (Str.ofString "qualified") 542, val := Value.ref 252 }, { hash := PyData.keyHash P (Str.ofString "name"), key := Value.str (Str.ofString "name") 552, val := Value.ref 259 }, { hash := PyData.keyHash P (Str.ofString "mark"), key := Value.str (Str.ofString "mark") 561, val := Value.ref 266 }, { hash := PyData.keyHash P (Str.ofString "__static_attributes__"), key := Value.str (Str.ofString "__static_attributes__") 565, val := Value.ref 267 }] 19 }),
  (157, { cls := Value.type "tuple", data := Data.seq #[] }),
  (158, { cls := Value.none, data := Data.fields #[Value.int 63 0, Value.int 4 0, Value.ref 166, Value.int 68 0, Value.int 4 0, Value.ref 174, Value.int 72 0, Value.int 4 0, Value.ref 181, Value.int 75 0, Value.int 4 0, Value.ref 188, Value.int 83 0, Value.int 4 0, Value.ref 195, Value.int 87 0, Value.int 4 0, Value.ref 202, Value.int 95 0, Value.int 4 0, Value.ref 209, Value.int 111 0, Value.int 4 0, Value.ref 216, Value.int 119 0, Value.int 4 0, Value.ref 223, Value.int 123 0, Value.int 4 0, Value.ref 230, Value.int 131 0, Value.int 4 0, Value.ref 237, Value.int 139 0, Value.int 4 0, Value.ref 244, Value.int 147 0, Value.int 4 0, Value.ref 251, Value.int 160 0, Value.int 4 0, Value.ref 258, Value.int 179 0, Value.int 4 0, Value.ref 265] }),
  (159, { cls := Value.type "code", data := Data.fields #[Value.str (Str.ofString "PathScanner") 424, Value.str (Str.ofString "PathScanner") 425, Value.str (Str.ofString "/claim/cut.py") 426, Value.int 61 0, Value.int 0 0, Value.int 0 0, Value.int 0 0, Value.int 0 0, Value.ref 157, Value.bool Bool.false, Value.int 181 0, Value.ref 158, Value.none, Value.none, Value.none, Value.none, Value.int 427 0, Value.int 61 0, Value.str (Str.ofString "/claim/cut.py") 428] }),
  (160, { cls := Value.type "frame", slots := #[Option.some (Value.ref 159), Option.some (Value.ref 3), Option.some (Value.ref 156), Option.none, Option.some (Value.str (Str.ofString "markupmill.xpath_words") 317), Option.none, Option.some (Value.ref 0)] }),
  (162, { cls := Value.none, data := Data.fields #[] }),
  (165, { cls := Value.none, data := Data.func { name := Str.ofString "__init__", qualname := Str.ofString "PathScanner.__init__", params := fA (sC 23 0), body := FuncBody.stmts (fB (sC 23 0)), scope := fS (sC 23 0), globals := 0, closure := [], defaults := Value.none, kwdefaults := Value.none } }),
  (170, { cls := Value.none, data := Data.fields #[] }),
  (173, { cls := Value.none, data := Data.func { name := Str.ofString "sign", qualname := Str.ofString "PathScanner.sign", params := fA (sC 23 1), body := FuncBody.stmts (fB (sC 23 1)), scope := fS (sC 23 1), globals := 0, closure := [], defaults := Value.none, kwdefaults := Value.none } }),
  (177, { cls := Value.none, data := Data.fields #[] }),
  (180, { cls := Value.none, data := Data.func { name := Str.ofString "add", qualname := Str.ofString "PathScanner.add", params := fA (sC 23 2), body := FuncBody.stmts (fB (sC 23 2)), scope := fS (sC 23 2), globals := 0, closure := [], defaults := Value.none, kwdefaults := Value.none } }),
  (184, { cls := Value.none, data := Data.fields #[] }),
  (187, { cls := Value.none, data := Data.func { name := Str.ofString "run", qualname := Str.ofString "PathScanner.run", params := fA (sC 23 3), body := FuncBody.stmts (fB (sC 23 3)), scope := fS (sC 23 3), globals := 0, closure := [], defaults := Value.none, kwdefaults := Value.none } }),
  (191, { cls := Value.none, data := Data.fields #[] }),
  (194, { cls := Value.none, data := Data.func { name := Str.ofString "skip", qualname := Str.ofString "PathScanner.skip", params := fA (sC 23 4), body := FuncBody.stmts (fB (sC 23 4)), scope := fS (sC 23 4), globals := 0, closure := [], defaults := Value.none, kwdefaults := Value.none } }),
  (198, { cls := Value.none, data := Data.fields #[] }),
  (201, { cls := Value.none, data := Data.func { name := Str.ofString "is_behind_operand", qualname := Str.ofString "PathScanner.is_behind_operand", params := fA (sC 23 5), body := FuncBody.stmts (fB (sC 23 5)), scope := fS (sC 23 5), globals := 0, closure := [], defaults := Value.none, kwdefaults := Value.none } }),
  (205, { cls := Value.none, data := Data.fields #[] }),
  (208, { cls := Value.none, data := Data.func { name := Str.ofString "step", qualname := Str.ofString "PathScanner.step", params := fA (sC 23 6), body := FuncBody.stmts (fB (sC 23 6)), scope := fS (sC 23 6), globals := 0, closure := [], defaults := Value.none, kwdefaults := Value.none } }),
  (212, { cls := Value.none, data := Data.fields #[] }),
  (215, { cls := Value.none, data := Data.func { name := Str.ofString "number", qualname := Str.ofString "PathScanner.number", params := fA (sC 23 7), body := FuncBody.stmts (fB (sC 23 7)), scope := fS (sC 23 7), globals := 0, closure := [], defaults := Value.none, kwdefaults := Value.none } }),
  (219, { cls := Value.none, data := Data.fields #[] }),
  (222, { cls := Value.none, data := Data.func { name := Str.ofString "figures", qualname := Str.ofString "PathScanner.figures", params := fA (sC 23 8), body := FuncBody.stmts (fB (sC 23 8)), scope := fS (sC 23 8), globals := 0, closure := [], defaults := Value.none, kwdefaults := Value.none } }),
  (226, { cls := Value.none, data := Data.fields #[] }),
  (229, { cls := Value.none, data := Data.func { name := Str.ofString "literal", qualname := Str.ofString "PathScanner.literal", params := fA (sC 23 9), body := FuncBody.stmts (fB (sC 23 9)), scope := fS (sC 23 9), globals := 0, closure := [], defaults := Value.none, kwdefaults := Value.none } }),
  (233, { cls := Value.none, data := Data.fields #[] }),
  (236, { cls := Value.none, data := Data.func { name := Str.ofString "variable", qualname := Str.ofString "PathScanner.variable", params := fA (sC 23 10), body := FuncBody.stmts (fB (sC 23 10)), scope := fS (sC 23 10), globals := 0, closure := [], defaults := Value.none, kwdefaults := Value.none } }),
  (240, { cls := Value.none, data := Data.fields #[] }),
  (243, { cls := Value.none, data := Data.func { name := Str.ofString "plain_name", qualname := Str.ofString "PathScanner.plain_name", params := fA (sC 23 11), body := FuncBody.stmts (fB (sC 23 11)), scope := fS (sC 23 11), globals := 0, closure := [], defaults := Value.none, kwdefaults := Value.none } }),
  (247, { cls := Value.none, data := Data.fields #[] }),
  (250, { cls := Value.none, data := Data.func { name := Str.ofString "qualified", qualname := Str.ofString "PathScanner.qualified", params := fA (sC 23 12), body := FuncBody.stmts (fB (sC 23 12)), scope := fS (sC 23 12), globals := 0, closure := [], defaults := Value.none, kwdefaults := Value.none } }),
  (254, { cls := Value.none, data := Data.fields #[] }),
  (257, { cls := Value.none, data := Data.func { name := Str.ofString "name", qualname := Str.ofString "PathScanner.name", params := fA (sC 23 13), body := FuncBody.stmts (fB (sC 23 13)), scope := fS (sC 23 13), globals := 0, closure := [], defaults := Value.none, kwdefaults := Value.none } }),
  (261, { cls := Value.none, data := Data.fields #[] }),
  (264, { cls := Value.none, data := Data.func { name := Str.ofString "mark", qualname := Str.ofString "PathScanner.mark", params := fA (sC 23 14), body := FuncBody.stmts (fB (sC 23 14)), scope := fS (sC 23 14), globals := 0, closure := [], defaults := Value.none, kwdefaults := Value.none } }),
  (272, { cls := Value.type "super", data := Data.fields #[Value.ref 269, Value.ref 269, Value.ref 269] }),
  (273, { cls := Value.type "builtin_function_or_method", data := Data.fields #[Value.builtin "object.__init_subclass__", Value.ref 269] }),
  (275, { cls := Value.none, data := Data.fields #[] }),
  (278, { cls := Value.none, data := Data.func { name := Str.ofString "path_words", qualname := Str.ofString "path_words", params := fA (sA 24), body := FuncBody.stmts (fB (sA 24)), scope := fS (sA 24), globals := 0, closure := [], defaults := Value.none, kwdefaults := Value.none } }),
  (282, { cls := Value.none, data := Data.fields #[] }),
  (285, { cls := Value.none, data := Data.func { name := Str.ofString "_law_bag", qualname := Str.ofString "_law_bag", params := fA (sA 26), body := FuncBody.stmts (fB (sA 26)), scope := fS (sA 26), globals := 0, closure := [], defaults := Value.none, kwdefaults := Value.none } }),
  (289, { cls := Value.none, data := Data.fields #[] }),
  (292, { cls := Value.none, data := Data.func { name := Str.ofString "_law_pick", qualname := Str.ofString "_law_pick", params := fA (sA 27), body := FuncBody.stmts (fB (sA 27)), scope := fS (sA 27), globals := 0, closure := [], defaults := Value.none, kwdefaults := Value.none } }),
  (296, { cls := Value.none, data := Data.fields #[] }),
  (299, { cls := Value.none, data := Data.func { name := Str.ofString "_law_one", qualname := Str.ofString "_law_one", params := fA (sA 28), body := FuncBody.stmts (fB (sA 28)), scope := fS (sA 28), globals := 0, closure := [], defaults := Value.none, kwdefaults := Value.none } }),
  (303, { cls := Value.none, data := Data.fields #[] }),
  (304, { cls := Value.none, data := Data.func { name := Str.ofString "_law_heard", qualname := Str.ofString "_law_heard", params := fA (sA 29), body := FuncBody.stmts (fB (sA 29)), scope := fS (sA 29), globals := 0, closure := [], defaults := Value.none, kwdefaults := Value.none } }),
  (308, { cls := Value.none, data := Data.fields #[] }),
  (311, { cls := Value.none, data := Data.func { name := Str.ofString "_law_name", qualname := Str.ofString "_law_name", params := fA (sA 30), body := FuncBody.stmts (fB (sA 30)), scope := fS (sA 30), globals := 0, closure := [], defaults := Value.none, kwdefaults := Value.none } }),
  (315, { cls := Value.none, data := Data.fields #[] }),
  (318, { cls := Value.none, data := Data.func { name := Str.ofString "_law_row", qualname := Str.ofString "_law_row", params := fA (sA 31), body := FuncBody.stmts (fB (sA 31)), scope := fS (sA 31), globals := 0, closure := [], defaults := Value.none, kwdefaults := Value.none } }),
  (322, { cls := Value.none, data := Data.fields #[] }),
  (325, { cls := Value.none, data := Data.func { name := Str.ofString "_law_due", qualname := Str.ofString "_law_due", params := fA (sA 32), body := FuncBody.stmts (fB (sA 32)), scope := fS (sA 32), globals := 0, closure := [], defaults := Value.none, kwdefaults := Value.none } }),
  (329, { cls := Value.none, data := Data.fields #[] }),
  (332, { cls := Value.none, data := Data.func { name := Str.ofString "_law_word", qualname := Str.ofString "_law_word", params := fA (sA 33), body := FuncBody.stmts (fB (sA 33)), scope := fS (sA 33), globals := 0, closure := [], defaults := Value.none, kwdefaults := Value.none } }),
  (336, { cls := Value.none, data := Data.fields #[] }),
  (339, { cls := Value.none, data := Data.func { name := Str.ofString "_law_right", qualname := Str.ofString "_law_right", params := fA (sA 34), body := FuncBody.stmts (fB (sA 34)), scope := fS (sA 34), globals := 0, closure := [], defaults := Value.none, kwdefaults := Value.none } }),
  (343, { cls := Value.none, data := Data.fields #[] }),
  (344, { cls := Value.none, data := Data.func { name := Str.ofString "law", qualname := Str.ofString "law", params := fA (sA 35), body := FuncBody.stmts (fB (sA 35)), scope := fS (sA 35), globals := 0, closure := [], defaults := Value.none, kwdefaults := Value.none } })]
noncomputable def hO (P : Params) (i : Nat) : Obj := match (KV P).lookup i with
  | some o => o
  | none => match (oth P).lookup i with
    | some o => o
    | none => boot_o_0 P
noncomputable def hB (P : Params) : Heap := ⟨⟨[hO P 0, hO P 1, (boot_o_2 P), (boot_o_3 P), hO P 4, hO P 5, hO P 6, hO P 7, hO P 8, hO P 9, hO P 10, hO P 11, ({ cls := Value.none, data := Data.fields #[] }), hO P 13, hO P 14]⟩, {}⟩
noncomputable def h_s12 (P : Params) : Heap := ⟨⟨[hO P 0, hO P 1, hO P 2, ({ cls := Value.type "dict", data := Data.dict #[{ hash := PyData.keyHash P (Str.ofString "__name__"), key := Value.str (Str.ofString "__name__") 165, val := Value.str (Str.ofString "markupmill.errors") 270 }, { hash := PyData.keyHash P (Str.ofString "__doc__"), key := Value.str (Str.ofString "__doc__") 166, val := Value.none }, { hash := PyData.keyHash P (Str.ofString "__package__"), key := Value.str (Str.ofString "__package__") 167, val := Value.none }, { hash := PyData.keyHash P (Str.ofString "__loader__"), key := Value.str (Str.ofString "__loader__") 168, val := Value.builtin "__main__.__loader__#opaque" }, { hash := PyData.keyHash P (Str.ofString "__spec__"), key := Value.str (Str.ofString "__spec__") 169, val := Value.none }, { hash := PyData.keyHash P (Str.ofString "__annotations__"), key := Value.str (Str.ofString "__annotations__") 170, val := Value.ref 6 }, { hash := PyData.keyHash P (Str.ofString "__builtins__"), key := Value.str (Str.ofString "__builtins__") 171, val := Value.ref 4 }, { hash := PyData.keyHash P (Str.ofString "__file__"), key := Value.str (Str.ofString "__file__") 173, val := Value.str (Str.ofString "/claim/cut.py") 172 }, { hash := PyData.keyHash P (Str.ofString "__cached__"), key := Value.str (Str.ofString "__cached__") 174, val := Value.none }, { hash := PyData.keyHash P (Str.ofString "_wall"), key := Value.str (Str.ofString "_wall") 193, val := Value.ref 21 }, { hash := PyData.keyHash P (Str.ofString "SPACES"), key := Value.str (Str.ofString "SPACES") 197, val := Value.str (Str.ofString " \t\n\x0d") 196 }, { hash := PyData.keyHash P (Str.ofString "START_RANGES"), key := Value.str (Str.ofString "START_RANGES") 222, val := Value.ref 34 }, { hash := PyData.keyHash P (Str.ofString "MORE_RANGES"), key := Value.str (Str.ofString "MORE_RANGES") 229, val := Value.ref 38 }, { hash := PyData.keyHash P (Str.ofString "FIRST_BEYOND"), key := Value.str (Str.ofString "FIRST_BEYOND") 231, val := Value.int 128 230 }, { hash := PyData.keyHash P (Str.ofString "is_in_ranges"), key := Value.str (Str.ofString "is_in_ranges") 241, val := Value.ref 45 }, { hash := PyData.keyHash P (Str.ofString "is_space"), key := Value.str (Str.ofString "is_space") 248, val := Value.ref 52 }, { hash := PyData.keyHash P (Str.ofString "is_small_letter"), key := Value.str (Str.ofString "is_small_letter") 255, val := Value.ref 59 }, { hash := PyData.keyHash P (Str.ofString "is_name_start"), key := Value.str (Str.ofString "is_name_start") 262, val := Value.ref 66 }, { hash := PyData.keyHash P (Str.ofString "is_name_char"), key := Value.str (Str.ofString "is_name_char") 269, val := Value.ref 73 }, { hash := PyData.keyHash P (Str.ofString "MarkupError"), key := Value.str (Str.ofString "MarkupError") 300, val := Value.ref 90 }] 20 }), hO P 4, hO P 5, hO P 6, hO P 7, hO P 8, hO P 9, hO P 10, hO P 11, ({ cls := Value.none, data := Data.fields #[Value.int 1 0, Value.int 0 0, Value.ref 20, Value.int 9 0, Value.int 0 0, Value.ref 44, Value.int 16 0, Value.int 0 0, Value.ref 51, Value.int 18 0, Value.int 0 0, Value.ref 58, Value.int 20 0, Value.int 0 0, Value.ref 65, Value.int 24 0, Value.int 0 0, Value.ref 72, Value.int 31 0, Value.int 0 0, Value.ref 79] }), hO P 13, hO P 14, hO P 15, hO P 16, hO P 17, hO P 18, hO P 19, hO P 20, hO P 21, hO P 22, hO P 23, hO P 24, hO P 25, hO P 26, hO P 27, hO P 28, hO P 29, hO P 30, hO P 31, hO P 32, hO P 33, hO P 34, hO P 35, hO P 36, hO P 37, hO P 38, hO P 39, hO P 40, hO P 41, hO P 42, hO P 43, hO P 44, hO P 45, hO P 46, hO P 47, hO P 48, hO P 49, hO P 50, hO P 51, hO P 52, hO P 53, hO P 54, hO P 55, hO P 56, hO P 57, hO P 58, hO P 59, hO P 60, hO P 61, hO P 62, hO P 63, hO P 64, hO P 65, hO P 66, hO P 67, hO P 68, hO P 69, hO P 70, hO P 71, hO P 72, hO P 73, hO P 74, hO P 75, hO P 76, hO P 77, hO P 78, hO P 79, hO P 80, hO P 81, hO P 82, hO P 83, hO P 84, hO P 85, hO P 86, hO P 87, hO P 88, hO P 89, ({ cls := Value.type "type", data := Data.cls { name := Str.ofString "MarkupError", bases := [Value.type "Exception"], mro := [Value.ref 90, Value.type "Exception", Value.type "BaseException", Value.type "object"], ns := 89, qualname := Str.ofString "MarkupError" }, slots := #[Option.some (Value.ref 74), Option.none, Option.some (Value.str (Str.ofString "MarkupError") 272), Option.some (Value.str (Str.ofString "MarkupError") 280), Option.some (Value.builtin "Exception.__new__"), Option.some (Value.bool Bool.true)] }), hO P 91, hO P 92, hO P 93]⟩, {}⟩
noncomputable def h_s22 (P : Params) : Heap := ⟨⟨[hO P 0, hO P 1, hO P 2, ({ cls := Value.type "dict", data := Data.dict #[{ hash := PyData.keyHash P (Str.ofString "__name__"), key := Value.str (Str.ofString "__name__") 165, val := Value.str (Str.ofString "markupmill.xpath_words") 317 }, { hash := PyData.keyHash P (Str.ofString "__doc__"), key := Value.str (Str.ofString "__doc__") 166, val := Value.none }, { hash := PyData.keyHash P (Str.ofString "__package__"), key := Value.str (Str.ofString "__package__") 167, val := Value.none }, { hash := PyData.keyHash P (Str.ofString "__loader__"), key := Value.str (Str.ofString "__loader__") 168, val := Value.builtin "__main__.__loader__#opaque" }, { hash := PyData.keyHash P (Str.ofString "__spec__"), key := Value.str (Str.ofString "__spec__") 169, val := Value.none }, { hash := PyData.keyHash P (Str.ofString "__annotations__"), key := Value.str (Str.ofString "__annotations__") 170, val := Value.ref 6 }, { hash := PyData.keyHash P (Str.ofString "__builtins__"), key := Value.str (Str.ofString "__builtins__") 171, val := Value.ref 4 }, { hash := PyData.keyHash P (Str.ofString "__file__"), key := Value.str (Str.ofString "__file__") 173, val := Value.str (Str.ofString "/claim/cut.py") 172 }, { hash := PyData.keyHash P (Str.ofString "__cached__"), key := Value.str (Str.ofString "__cached__") 174, val := Value.none }, { hash := PyData.keyHash P (Str.ofString "_wall"), key := Value.str (Str.ofString "_wall") 193, val := Value.ref 21 }, { hash := PyData.keyHash P (Str.ofString "SPACES"), key := Value.str (Str.ofString "SPACES") 197, val := Value.str (Str.ofString " \t\n\x0d") 196 }, { hash := PyData.keyHash P (Str.ofString "START_RANGES"), key := Value.str (Str.ofString "START_RANGES") 222, val := Value.ref 34 }, { hash := PyData.keyHash P (Str.ofString "MORE_RANGES"), key := Value.str (Str.ofString "MORE_RANGES") 229, val := Value.ref 38 }, { hash := PyData.keyHash P (Str.ofString "FIRST_BEYOND"), key := Value.str (Str.ofString "FIRST_BEYOND") 231, val := Value.int 128 230 }, { hash := PyData.keyHash P (Str.ofString "is_in_ranges"), key := Value.str (Str.ofString "is_in_ranges") 241, val := Value.ref 45 }, { hash := PyData.keyHash P (Str.ofString "is_space"), key := Value.str (Str.ofString "is_space") 248, val := Value.ref 52 }, { hash := PyData.keyHash P (Str.ofString "is_small_letter"), key := Value.str (Str.ofString "is_small_letter") 255, val := Value.ref 59 }, { hash := PyData.keyHash P (Str.ofString "is_name_start"), key := Value.str (Str.ofString "is_name_start") 262, val := Value.ref 66 }, { hash := PyData.keyHash P (Str.ofString "is_name_char"), key := Value.str (Str.ofString "is_name_char") 269, val := Value.ref 73 }, { hash := PyData.keyHash P (Str.ofString "MarkupError"), key := Value.str (Str.ofString "MarkupError") 300, val := Value.ref 90 }, { hash := PyData.keyHash P (Str.ofString "PathFault"), key := Value.str (Str.ofString "PathFault") 316, val := Value.ref 103 }, { hash := PyData.keyHash P (Str.ofString "FIGURES"), key := Value.str (Str.ofString "FIGURES") 320, val := Value.str (Str.ofString "0123456789") 319 }, { hash := PyData.keyHash P (Str.ofString "PAIRS"), key := Value.str (Str.ofString "PAIRS") 327, val := Value.ref 106 }, { hash := PyData.keyHash P (Str.ofString "OPERATORS"), key := Value.str (Str.ofString "OPERATORS") 339, val := Value.ref 107 }, { hash := PyData.keyHash P (Str.ofString "SIGNS"), key := Value.str (Str.ofString "SIGNS") 349, val := Value.ref 108 }, { hash := PyData.keyHash P (Str.ofString "WORD_OPERATORS"), key := Value.str (Str.ofString "WORD_OPERATORS") 354, val := Value.ref 109 }, { hash := PyData.keyHash P (Str.ofString "KINDS_OF_NODES"), key := Value.str (Str.ofString "KINDS_OF_NODES") 359, val := Value.ref 110 }, { hash := PyData.keyHash P (Str.ofString "BEHIND_NO_OPERAND"), key := Value.str (Str.ofString "BEHIND_NO_OPERAND") 365, val := Value.ref 111 }, { hash := PyData.keyHash P (Str.ofString "Word"), key := Value.str (Str.ofString "Word") 421, val := Value.ref 149 }] 29 }), hO P 4, hO P 5, hO P 6, hO P 7, hO P 8, hO P 9, hO P 10, hO P 11, ({ cls := Value.none, data := Data.fields #[Value.int 1 0, Value.int 0 0, Value.ref 20, Value.int 9 0, Value.int 0 0, Value.ref 44, Value.int 16 0, Value.int 0 0, Value.ref 51, Value.int 18 0, Value.int 0 0, Value.ref 58, Value.int 20 0, Value.int 0 0, Value.ref 65, Value.int 24 0, Value.int 0 0, Value.ref 72, Value.int 31 0, Value.int 0 0, Value.ref 79, Value.int 36 0, Value.int 0 0, Value.ref 99, Value.int 46 0, Value.int 0 0, Value.ref 117] }), hO P 13, hO P 14, hO P 15, hO P 16, hO P 17, hO P 18, hO P 19, hO P 20, hO P 21, hO P 22, hO P 23, hO P 24, hO P 25, hO P 26, hO P 27, hO P 28, hO P 29, hO P 30, hO P 31, hO P 32, hO P 33, hO P 34, hO P 35, hO P 36, hO P 37, hO P 38, hO P 39, hO P 40, hO P 41, hO P 42, hO P 43, hO P 44, hO P 45, hO P 46, hO P 47, hO P 48, hO P 49, hO P 50, hO P 51, hO P 52, hO P 53, hO P 54, hO P 55, hO P 56, hO P 57, hO P 58, hO P 59, hO P 60, hO P 61, hO P 62, hO P 63, hO P 64, hO P 65, hO P 66, hO P 67, hO P 68, hO P 69, hO P 70, hO P 71, hO P 72, hO P 73, hO P 74, hO P 75, hO P 76, hO P 77, hO P 78, hO P 79, hO P 80, hO P 81, hO P 82, hO P 83, hO P 84, hO P 85, hO P 86, hO P 87, hO P 88, hO P 89, hO P 90, hO P 91, hO P 92, hO P 93, hO P 94, hO P 95, hO P 96, hO P 97, hO P 98, hO P 99, hO P 100, hO P 101, hO P 102, hO P 103, hO P 104, hO P 105, hO P 106, hO P 107, hO P 108, hO P 109, hO P 110, hO P 111, hO P 112, hO P 113, hO P 114, hO P 115, hO P 116, hO P 117, hO P 118, hO P 119, hO P 120, hO P 121, hO P 122, hO P 123, hO P 124, hO P 125, hO P 126, hO P 127, hO P 128, hO P 129, hO P 130, hO P 131, hO P 132, hO P 133, hO P 134, hO P 135, hO P 136, hO P 137, hO P 138, hO P 139, hO P 140, hO P 141, hO P 142, hO P 143, hO P 144, hO P 145, hO P 146, hO P 147, hO P 148, hO P 149, hO P 150, hO P 151, hO P 152, hO P 153]⟩, {}⟩
noncomputable def h_s23 (P : Params) : Heap := ⟨⟨[hO P 0, hO P 1, hO P 2, ({ cls := Value.type "dict", data := Data.dict #[{ hash := PyData.keyHash P (Str.ofString "__name__"), key := Value.str (Str.ofString "__name__") 165, val := Value.str (Str.ofString "markupmill.xpath_words") 317 }, { hash := PyData.keyHash P (Str.ofString "__doc__"), key := Value.str (Str.ofString "__doc__") 166, val := Value.none }, { hash := PyData.keyHash P (Str.ofString "__package__"), key := Value.str (Str.ofString "__package__") 167, val := Value.none }, { hash := PyData.keyHash P (Str.ofString "__loader__"), key := Value.str (Str.ofString "__loader__") 168, val := Value.builtin "__main__.__loader__#opaque" }, { hash := PyData.keyHash P (Str.ofString "__spec__"), key := Value.str (Str.ofString "__spec__") 169, val := Value.none }, { hash := PyData.keyHash P (Str.ofString "__annotations__"), key := Value.str (Str.ofString "__annotations__") 170, val := Value.ref 6 }, { hash := PyData.keyHash P (Str.ofString "__builtins__"), key := Value.str (Str.ofString "__builtins__") 171, val := Value.ref 4 }, { hash := PyData.keyHash P (Str.ofString "__file__"), key := Value.str (Str.ofString "__file__") 173, val := Value.str (Str.ofString "/claim/cut.py") 172 }, { hash := PyData.keyHash P (Str.ofString "__cached__"), key := Value.str (Str.ofString "__cached__") 174, val := Value.none }, { hash := PyData.keyHash P (Str.ofString "_wall"), key := Value.str (Str.ofString "_wall") 193, val := Value.ref 21 }, { hash := PyData.keyHash P (Str.ofString "SPACES"), key := Value.str (Str.ofString "SPACES") 197, val := Value.str (Str.ofString " \t\n\x0d") 196 }, { hash := PyData.keyHash P (Str.ofString "START_RANGES"), key := Value.str (Str.ofString "START_RANGES") 222, val := Value.ref 34 }, { hash := PyData.keyHash P (Str.ofString "MORE_RANGES"), key := Value.str (Str.ofString "MORE_RANGES") 229, val := Value.ref 38 }, { hash := PyData.keyHash P (Str.ofString "FIRST_BEYOND"), key := Value.str (Str.ofString "FIRST_BEYOND") 231, val := Value.int 128 230 }, { hash := PyData.keyHash P (Str.ofString "is_in_ranges"), key := Value.str (Str.ofString "is_in_ranges") 241, val := Value.ref 45 }, { hash := PyData.keyHash P (Str.ofString "is_space"), key := Value.str (Str.ofString "is_space") 248, val := Value.ref 52 }, { hash := PyData.keyHash P (Str.ofString "is_small_letter"), key := Value.str (Str.ofString "is_small_letter") 255, val := Value.ref 59 }, { hash := PyData.keyHash P (Str.ofString "is_name_start"), key := Value.str (Str.ofString "is_name_start") 262, val := Value.ref 66 }, { hash := PyData.keyHash P (Str.ofString "is_name_char"), key := Value.str (Str.ofString "is_name_char") 269, val := Value.ref 73 }, { hash := PyData.keyHash P (Str.ofString "MarkupError"), key := Value.str (Str.ofString "MarkupError") 300, val := Value.ref 90 }, { hash := PyData.keyHash P (Str.ofString "PathFault"), key := Value.str (Str.ofString "PathFault") 316, val := Value.ref 103 }, { hash := PyData.keyHash P (Str.ofString "FIGURES"), key := Value.str (Str.ofString "FIGURES") 320, val := Value.str (Str.ofString "0123456789") 319 }, { hash := PyData.keyHash P (Str.ofString "PAIRS"), key := Value.str (Str.ofString "PAIRS") 327, val := Value.ref 106 }, { hash := PyData.keyHash P (Str.ofString "OPERATORS"), key := Value.str (Str.ofString "OPERATORS") 339, val := Value.ref 107 }, { hash := PyData.keyHash P (Str.ofString "SIGNS"), key := Value.str (Str.ofString "SIGNS") 349, val := Value.ref 108 }, { hash := PyData.keyHash P (Str.ofString "WORD_OPERATORS"), key := Value.str (Str.ofString "WORD_OPERATORS") 354, val := Value.ref 109 }, { hash := PyData.keyHash P (Str.ofString "KINDS_OF_NODES"), key := Value.str (Str.ofString "KINDS_OF_NODES") 359, val := Value.ref 110 }, { hash := PyData.keyHash P (Str.ofString "BEHIND_NO_OPERAND"), key := Value.str (Str.ofString "BEHIND_NO_OPERAND") 365, val := Value.ref 111 }, { hash := PyData.keyHash P (Str.ofString "Word"), key := Value.str (Str.ofString "Word") 421, val := Value.ref 149 }, { hash := PyData.keyHash P (Str.ofString "PathScanner"), key := Value.str (Str.ofString "PathScanner") 572, val := Value.ref 269 }] 30 }), hO P 4, hO P 5, hO P 6, hO P 7, hO P 8, hO P 9, hO P 10, hO P 11, ({ cls := Value.none, data := Data.fields #[Value.int 1 0, Value.int 0 0, Value.ref 20, Value.int 9 0, Value.int 0 0, Value.ref 44, Value.int 16 0, Value.int 0 0, Value.ref 51, Value.int 18 0, Value.int 0 0, Value.ref 58, Value.int 20 0, Value.int 0 0, Value.ref 65, Value.int 24 0, Value.int 0 0, Value.ref 72, Value.int 31 0, Value.int 0 0, Value.ref 79, Value.int 36 0, Value.int 0 0, Value.ref 99, Value.int 46 0, Value.int 0 0, Value.ref 117, Value.int 61 0, Value.int 0 0, Value.ref 159] }), hO P 13, hO P 14, hO P 15, hO P 16, hO P 17, hO P 18, hO P 19, hO P 20, hO P 21, hO P 22, hO P 23, hO P 24, hO P 25, hO P 26, hO P 27, hO P 28, hO P 29, hO P 30, hO P 31, hO P 32, hO P 33, hO P 34, hO P 35, hO P 36, hO P 37, hO P 38, hO P 39, hO P 40, hO P 41, hO P 42, hO P 43, hO P 44, hO P 45, hO P 46, hO P 47, hO P 48, hO P 49, hO P 50, hO P 51, hO P 52, hO P 53, hO P 54, hO P 55, hO P 56, hO P 57, hO P 58, hO P 59, hO P 60, hO P 61, hO P 62, hO P 63, hO P 64, hO P 65, hO P 66, hO P 67, hO P 68, hO P 69, hO P 70, hO P 71, hO P 72, hO P 73, hO P 74, hO P 75, hO P 76, hO P 77, hO P 78, hO P 79, hO P 80, hO P 81, hO P 82, hO P 83, hO P 84, hO P 85, hO P 86, hO P 87, hO P 88, hO P 89, hO P 90, hO P 91, hO P 92, hO P 93, hO P 94, hO P 95, hO P 96, hO P 97, hO P 98, hO P 99, hO P 100, hO P 101, hO P 102, hO P 103, hO P 104, hO P 105, hO P 106, hO P 107, hO P 108, hO P 109, hO P 110, hO P 111, hO P 112, hO P 113, hO P 114, hO P 115, hO P 116, hO P 117, hO P 118, hO P 119, hO P 120, hO P 121, hO P 122, hO P 123, hO P 124, hO P 125, hO P 126, hO P 127, hO P 128, hO P 129, hO P 130, hO P 131, hO P 132, hO P 133, hO P 134, hO P 135, hO P 136, hO P 137, hO P 138, hO P 139, hO P 140, hO P 141, hO P 142, hO P 143, hO P 144, hO P 145, hO P 146, hO P 147, hO P 148, hO P 149, hO P 150, hO P 151, hO P 152, hO P 153, hO P 154, hO P 155, hO P 156, hO P 157, hO P 158, hO P 159, hO P 160, hO P 161, hO P 162, hO P 163, hO P 164, hO P 165, hO P 166, hO P 167, hO P 168, hO P 169, hO P 170, hO P 171, hO P 172, hO P 173, hO P 174, hO P 175, hO P 176, hO P 177, hO P 178, hO P 179, hO P 180, hO P 181, hO P 182, hO P 183, hO P 184, hO P 185, hO P 186, hO P 187, hO P 188, hO P 189, hO P 190, hO P 191, hO P 192, hO P 193, hO P 194, hO P 195, hO P 196, hO P 197, hO P 198, hO P 199, hO P 200, hO P 201, hO P 202, hO P 203, hO P 204, hO P 205, hO P 206, hO P 207, hO P 208, hO P 209, hO P 210, hO P 211, hO P 212, hO P 213, hO P 214, hO P 215, hO P 216, hO P 217, hO P 218, hO P 219, hO P 220, hO P 221, hO P 222, hO P 223, hO P 224, hO P 225, hO P 226, hO P 227, hO P 228, hO P 229, hO P 230, hO P 231, hO P 232, hO P 233, hO P 234, hO P 235, hO P 236, hO P 237, hO P 238, hO P 239, hO P 240, hO P 241, hO P 242, hO P 243, hO P 244, hO P 245, hO P 246, hO P 247, hO P 248, hO P 249, hO P 250, hO P 251, hO P 252, hO P 253, hO P 254, hO P 255, hO P 256, hO P 257, hO P 258, hO P 259, hO P 260, hO P 261, hO P 262, hO P 263, hO P 264, hO P 265, hO P 266, hO P 267, hO P 268, hO P 269, hO P 270, hO P 271, hO P 272, hO P 273]⟩, {}⟩
noncomputable def h_s35 (P : Params) : Heap := ⟨⟨[hO P 0, hO P 1, hO P 2, hO P 3, hO P 4, hO P 5, hO P 6, hO P 7, hO P 8, hO P 9, hO P 10, hO P 11, hO P 12, hO P 13, hO P 14, hO P 15, hO P 16, hO P 17, hO P 18, hO P 19, hO P 20, hO P 21, hO P 22, hO P 23, hO P 24, hO P 25, hO P 26, hO P 27, hO P 28, hO P 29, hO P 30, hO P 31, hO P 32, hO P 33, hO P 34, hO P 35, hO P 36, hO P 37, hO P 38, hO P 39, hO P 40, hO P 41, hO P 42, hO P 43, hO P 44, hO P 45, hO P 46, hO P 47, hO P 48, hO P 49, hO P 50, hO P 51, hO P 52, hO P 53, hO P 54, hO P 55, hO P 56, hO P 57, hO P 58, hO P 59, hO P 60, hO P 61, hO P 62, hO P 63, hO P 64, hO P 65, hO P 66, hO P 67, hO P 68, hO P 69, hO P 70, hO P 71, hO P 72, hO P 73, hO P 74, hO P 75, hO P 76, hO P 77, hO P 78, hO P 79, hO P 80, hO P 81, hO P 82, hO P 83, hO P 84, hO P 85, hO P 86, hO P 87, hO P 88, hO P 89, hO P 90, hO P 91, hO P 92, hO P 93, hO P 94, hO P 95, hO P 96, hO P 97, hO P 98, hO P 99, hO P 100, hO P 101, hO P 102, hO P 103, hO P 104, hO P 105, hO P 106, hO P 107, hO P 108, hO P 109, hO P 110, hO P 111, hO P 112, hO P 113, hO P 114, hO P 115, hO P 116, hO P 117, hO P 118, hO P 119, hO P 120, hO P 121, hO P 122, hO P 123, hO P 124, hO P 125, hO P 126, hO P 127, hO P 128, hO P 129, hO P 130, hO P 131, hO P 132, hO P 133, hO P 134, hO P 135, hO P 136, hO P 137, hO P 138, hO P 139, hO P 140, hO P 141, hO P 142, hO P 143, hO P 144, hO P 145, hO P 146, hO P 147, hO P 148, hO P 149, hO P 150, hO P 151, hO P 152, hO P 153, hO P 154, hO P 155, hO P 156, hO P 157, hO P 158, hO P 159, hO P 160, hO P 161, hO P 162, hO P 163, hO P 164, hO P 165, hO P 166, hO P 167, hO P 168, hO P 169, hO P 170, hO P 171, hO P 172, hO P 173, hO P 174, hO P 175, hO P 176, hO P 177, hO P 178, hO P 179, hO P 180, hO P 181, hO P 182, hO P 183, hO P 184, hO P 185, hO P 186, hO P 187, hO P 188, hO P 189, hO P 190, hO P 191, hO P 192, hO P 193, hO P 194, hO P 195, hO P 196, hO P 197, hO P 198, hO P 199, hO P 200, hO P 201, hO P 202, hO P 203, hO P 204, hO P 205, hO P 206, hO P 207, hO P 208, hO P 209, hO P 210, hO P 211, hO P 212, hO P 213, hO P 214, hO P 215, hO P 216, hO P 217, hO P 218, hO P 219, hO P 220, hO P 221, hO P 222, hO P 223, hO P 224, hO P 225, hO P 226, hO P 227, hO P 228, hO P 229, hO P 230, hO P 231, hO P 232, hO P 233, hO P 234, hO P 235, hO P 236, hO P 237, hO P 238, hO P 239, hO P 240, hO P 241, hO P 242, hO P 243, hO P 244, hO P 245, hO P 246, hO P 247, hO P 248, hO P 249, hO P 250, hO P 251, hO P 252, hO P 253, hO P 254, hO P 255, hO P 256, hO P 257, hO P 258, hO P 259, hO P 260, hO P 261, hO P 262, hO P 263, hO P 264, hO P 265, hO P 266, hO P 267, hO P 268, hO P 269, hO P 270, hO P 271, hO P 272, hO P 273, hO P 274, hO P 275, hO P 276, hO P 277, hO P 278, hO P 279, hO P 280, hO P 281, hO P 282, hO P 283, hO P 284, hO P 285, hO P 286, hO P 287, hO P 288, hO P 289, hO P 290, hO P 291, hO P 292, hO P 293, hO P 294, hO P 295, hO P 296, hO P 297, hO P 298, hO P 299, hO P 300, hO P 301, hO P 302, hO P 303, hO P 304, hO P 305, hO P 306, hO P 307, hO P 308, hO P 309, hO P 310, hO P 311, hO P 312, hO P 313, hO P 314, hO P 315, hO P 316, hO P 317, hO P 318, hO P 319, hO P 320, hO P 321, hO P 322, hO P 323, hO P 324, hO P 325, hO P 326, hO P 327, hO P 328, hO P 329, hO P 330, hO P 331, hO P 332, hO P 333, hO P 334, hO P 335, hO P 336, hO P 337, hO P 338, hO P 339, hO P 340, hO P 341, hO P 342, hO P 343, hO P 344, hO P 345, hO P 346]⟩, {}⟩
noncomputable abbrev bE : List Stmt := behindTheImports pw
noncomputable abbrev evE : Env := { scope := pw.main.scope, locals := mainNs, globals := mainNs, cells := [], code := .ref 13, frame := some 14 }
noncomputable abbrev cE : Code := .body bE evE
abbrev pB : Pos := { line := 0, col := 0, endLine := 0, endCol := 0 }
abbrev fB0 : List Frame := [topFrame ⟨0, 0, 0, 0⟩]
abbrev anE : Option Value := some (.ref 6)
theorem pre_ (w : World) (os : OsState) : topGo treeTable pw w 11 anE 12 ⟨boot_heap w.params, #[], boot_drawn, boot_toks, os⟩ (topStub pw) = some (⟨hB w.params, #[], {}, 187, os⟩, ⟨denote treeTable cE, cE, pB, fB0⟩) := by kernel_rfl
theorem block_ (w : World) (os : OsState) : segRun treeTable pw w 11 anE 1 1 ⟨hB w.params, #[], {}, 187, os⟩ (blockOf bE evE cE pB fB0) = some (.next, ⟨hB w.params, #[], {}, 187, os⟩, cE, pB) := by kernel_rfl
noncomputable abbrev L1 : List Stmt := (bE.drop 0).take 13
abbrev p1 : Pos := { line := 31, col := 0, endLine := 35, endCol := 30 }
theorem g1_ (w : World) (os : OsState) : segRun treeTable pw w 11 anE 1 522 ⟨hB w.params, #[], {}, 187, os⟩ (piecesOf L1 evE cE pB fB0) = some (.next, ⟨h_s12 w.params, #[], {}, 301, os⟩, cE, p1) := by kernel_rfl
noncomputable abbrev L2 : List Stmt := (bE.drop 13).take 10
abbrev p2 : Pos := { line := 46, col := 0, endLine := 60, endCol := 37 }
theorem g2_ (w : World) (os : OsState) : segRun treeTable pw w 11 anE 1 652 ⟨h_s12 w.params, #[], {}, 301, os⟩ (piecesOf L2 evE cE p1 fB0) = some (.next, ⟨h_s22 w.params, #[], {}, 422, os⟩, cE, p2) := by kernel_rfl
noncomputable abbrev L3 : List Stmt := (bE.drop 23).take 1
abbrev p3 : Pos := { line := 61, col := 0, endLine := 190, endCol := 35 }
theorem g3_ (w : World) (os : OsState) : segRun treeTable pw w 11 anE 1 682 ⟨h_s22 w.params, #[], {}, 422, os⟩ (piecesOf L3 evE cE p2 fB0) = some (.next, ⟨h_s23 w.params, #[], {}, 573, os⟩, cE, p3) := by kernel_rfl
noncomputable abbrev L4 : List Stmt := (bE.drop 24).take 12
abbrev p4 : Pos := { line := 267, col := 0, endLine := 280, endCol := 15 }
theorem g4_ (w : World) (os : OsState) : segRun treeTable pw w 11 anE 1 348 ⟨h_s23 w.params, #[], {}, 573, os⟩ (piecesOf L4 evE cE p3 fB0) = some (.next, ⟨h_s35 w.params, #[], {}, 675, os⟩, cE, p4) := by kernel_rfl
theorem fin_ (w : World) (os : OsState) : topRun treeTable pw w 11 anE 2 ⟨h_s35 w.params, #[], {}, 675, os⟩ ⟨doneF .next, cE, p4, fB0⟩ = some ⟨h_s35 w.params, #[], {}, 675, os⟩ := by kernel_rfl
theorem split_ : bE = L1 ++ (L2 ++ (L3 ++ (L4 ++ (([] : List Stmt))))) := by kernel_rfl
theorem rest_ (w : World) (os : OsState) (b : List Stmt) (h : b = L1 ++ (L2 ++ (L3 ++ (L4 ++ (([] : List Stmt)))))) : topRun treeTable pw w 11 anE (522 + (652 + (682 + (348 + 2)))) ⟨hB w.params, #[], {}, 187, os⟩ (restOf b evE cE pB fB0) = some ⟨h_s35 w.params, #[], {}, 675, os⟩ := by
  subst h
  exact piece_app (g1_ w os) (piece_app (g2_ w os) (piece_app (g3_ w os) (piece_app (g4_ w os) (piece_nil (fin_ w os)))))
theorem run_ (w : World) (os : OsState) : topRun treeTable pw w 11 anE (12 + (1 + (522 + (652 + (682 + (348 + 2)))))) ⟨boot_heap w.params, #[], boot_drawn, boot_toks, os⟩ (topStub pw) = some ⟨h_s35 w.params, #[], {}, 675, os⟩ :=
  go_top (pre_ w os) (piece_block (block_ w os) (rest_ w os bE split_))
theorem open_1 : opening pw = plainProg pw.main.scope.names := by kernel_rfl
theorem open_2 : ∀ s, fenceModules? pw s = some s := by intro s; kernel_rfl
theorem size_ (w : World) : ((boot_heap w.params).isNs mainGlobals && (#[] : Array GenState).size == 0, (boot_heap w.params).objs.size, (boot_heap w.params).nsMap mainGlobals "__annotations__") = (true, 11, anE) := by kernel_rfl
theorem left : LeftO PySem.Challenge.rw_xw0211_01.row.prog VV [] (fun s => xlAt VV [] s && recOk Rr.records s) Hk.obs Hk.val 4526 :=
  LeftO.of_pieces (H₀ := boot_heap) (H₁ := h_s35) (gs₀ := #[]) (gs₁ := #[]) (d₀ := boot_drawn) (d₁ := {}) (k₀ := boot_toks) (k₁ := 675) (m₀ := 11) (ann := anE) (M := (12 + (1 + (522 + (652 + (682 + (348 + 2)))))))
    (boot_open (p := pw) (N := 4526) open_1 (by decide) open_2) size_ run_ (by decide) (by intro w; kernel_rfl)
end

-- G9
theorem said : OpenLaw.wellSaid PySem.Challenge.rw_xw0211_01 = true := by
  unfold OpenLaw.wellSaid OpenRow.wellSaid OpenRow.partSaid looksOpen
  repeat' with_reducible refine look_both ?_ ?_
  all_goals decide +kernel
noncomputable def topp : { T : Prop // T → PySem.Challenge.rw_xw0211_01.Holds } := by
  refine ⟨?T, ?h⟩
  case h =>
    intro hc
    refine holds_law Mine.said fun said => ?_
    refine holds_open (q := VV) (loose := []) (Xt := fun s => xlAt VV [] s && recOk Rr.records s) (XP := XL VV []) (Yf := Hk.obs) (Ya := Hk.val) (YP := Hk.says) (N := 4526) left Hk.of Hk.keeps (fun s e => xl_of s (Bool.and_eq_true_iff.mp e).1) XL.keeps (by rfl) (by rfl) (by rfl) (fun s e => recFacts_of (Bool.and_eq_true_iff.mp e).2) (by first | rfl | skip) (by first | assumption | decide +kernel) (by decide +kernel) ⟨rfl, rfl, rfl, rfl, rfl, by decide +kernel⟩ ?hw ?hc
    case hw => w_witness2
    case hc => exact hc

-- A0
/-- what the caller is handed back -/
abbrev Ret (h₀ : Heap) (L : Addr) (m : Str → Option Value) (s : Shared) (Q : Value → Shared → Prop) (v : Value) (news : List (Addr × Obj)) : Prop :=
  ∀ (h' : Heap) (tk' : Nat), Fr h₀ L h' m → News h₀ L h' news → Q v { s with heap := h', toks := tk' }

/-- a contract: a call of the def at f by vs, over the ledger news, ends in post (back) or epost (raised) -/
abbrev Con (w : World) (d u : Nat) (f : Addr) (vs : List Value) (news : List (Addr × Obj)) (post epost : (Value → List (Addr × Obj) → Prop) → Prop) : Prop :=
  ∀ (mean : ExcName → Option Value) (mg mb : Str → Option Value) (dp un : Nat) (gd : Option (List Code)) (cn : Str) (cs : Scope) (a : Addr) (ccd : Value) (cl : List (Str × Addr)) (outer : List Env) (A₀ : Around) (base h₀ : Heap) (L : Addr) (m : Str → Option Value) (s : Shared) (Q E : Value → Shared → Prop),
    Below A₀ base outer h₀ → Fr h₀ L s.heap m → (KV w.params).In h₀ → News h₀ L s.heap news → Top VV (looseW VV []) mean mg mb h₀ → cs.kind = .function → dp + d < recursionLimit → un + u < cLine →
    (post (Ret h₀ L m s Q)) → (epost (Ret h₀ L m s E)) →
      wpAny (model PySem.Challenge.pw_xw0211_01 w) (ktrTop dp un gd cn cs L a ccd cl outer) (call (.ref f) vs) Q E s

def loadK (_ : OpenLaw) (_ : Params → Frag) : Prop := True
theorem loaded : loadK PySem.Challenge.rw_xw0211_01 KV := by
  k_fill
  exact trivial

-- Ep
theorem ne_pair {α β : Type} (x : Nonempty α) (y : Nonempty β) : Nonempty (α × β) := x.elim fun a => y.elim fun b => ⟨(a, b)⟩
theorem ne_world : Nonempty World := ⟨⟨fun _ _ => 0, { strHash := fun _ => 0, shareClass := fun _ => 0, mergeTok := fun t => t, idOf := fun _ => 0, idOfShared := fun _ _ => 0, followText := fun _ => false, idOfImm := fun _ => 0 }⟩⟩
noncomputable def tl1 {α β : Type} (t : α × β) : β := t.2
noncomputable def id1 {α : Type} (t : α) : α := t
noncomputable def hd1 {α β : Type} (t : α × β) : α := t.1
noncomputable def ep3 {α0 α1 α2 : Type} (d : Nonempty (α0 × α1 × α2)) (P : α0 → α1 → α2 → Prop) : α0 × α1 × α2 := @Classical.epsilon _ d fun t => ¬ P (hd1 t) (hd1 (tl1 t)) (id1 (tl1 (tl1 t)))
theorem ep3_all {α0 α1 α2 : Type} {P : α0 → α1 → α2 → Prop} (d : Nonempty (α0 × α1 × α2)) (h : ∀ R : α0 → α1 → α2 → Prop, R = P → R (hd1 (ep3 d P)) (hd1 (tl1 (ep3 d P))) (id1 (tl1 (tl1 (ep3 d P))))) (x0 : α0) (x1 : α1) (x2 : α2) : P x0 x1 x2 :=
  Classical.byContradiction fun hx => (@Classical.epsilon_spec _ (fun t : α0 × α1 × α2 => ¬ P (hd1 t) (hd1 (tl1 t)) (id1 (tl1 (tl1 t)))) ⟨(x0, x1, x2), hx⟩) (h P rfl)
noncomputable def ep4 {α0 α1 α2 α3 : Type} (d : Nonempty (α0 × α1 × α2 × α3)) (P : α0 → α1 → α2 → α3 → Prop) : α0 × α1 × α2 × α3 := @Classical.epsilon _ d fun t => ¬ P (hd1 t) (hd1 (tl1 t)) (hd1 (tl1 (tl1 t))) (id1 (tl1 (tl1 (tl1 t))))
theorem ep4_all {α0 α1 α2 α3 : Type} {P : α0 → α1 → α2 → α3 → Prop} (d : Nonempty (α0 × α1 × α2 × α3)) (h : ∀ R : α0 → α1 → α2 → α3 → Prop, R = P → R (hd1 (ep4 d P)) (hd1 (tl1 (ep4 d P))) (hd1 (tl1 (tl1 (ep4 d P)))) (id1 (tl1 (tl1 (tl1 (ep4 d P)))))) (x0 : α0) (x1 : α1) (x2 : α2) (x3 : α3) : P x0 x1 x2 x3 :=
  Classical.byContradiction fun hx => (@Classical.epsilon_spec _ (fun t : α0 × α1 × α2 × α3 => ¬ P (hd1 t) (hd1 (tl1 t)) (hd1 (tl1 (tl1 t))) (id1 (tl1 (tl1 (tl1 t))))) ⟨(x0, x1, x2, x3), hx⟩) (h P rfl)
noncomputable def ep5 {α0 α1 α2 α3 α4 : Type} (d : Nonempty (α0 × α1 × α2 × α3 × α4)) (P : α0 → α1 → α2 → α3 → α4 → Prop) : α0 × α1 × α2 × α3 × α4 := @Classical.epsilon _ d fun t => ¬ P (hd1 t) (hd1 (tl1 t)) (hd1 (tl1 (tl1 t))) (hd1 (tl1 (tl1 (tl1 t)))) (id1 (tl1 (tl1 (tl1 (tl1 t)))))
theorem ep5_all {α0 α1 α2 α3 α4 : Type} {P : α0 → α1 → α2 → α3 → α4 → Prop} (d : Nonempty (α0 × α1 × α2 × α3 × α4)) (h : ∀ R : α0 → α1 → α2 → α3 → α4 → Prop, R = P → R (hd1 (ep5 d P)) (hd1 (tl1 (ep5 d P))) (hd1 (tl1 (tl1 (ep5 d P)))) (hd1 (tl1 (tl1 (tl1 (ep5 d P))))) (id1 (tl1 (tl1 (tl1 (tl1 (ep5 d P))))))) (x0 : α0) (x1 : α1) (x2 : α2) (x3 : α3) (x4 : α4) : P x0 x1 x2 x3 x4 :=
  Classical.byContradiction fun hx => (@Classical.epsilon_spec _ (fun t : α0 × α1 × α2 × α3 × α4 => ¬ P (hd1 t) (hd1 (tl1 t)) (hd1 (tl1 (tl1 t))) (hd1 (tl1 (tl1 (tl1 t)))) (id1 (tl1 (tl1 (tl1 (tl1 t)))))) ⟨(x0, x1, x2, x3, x4), hx⟩) (h P rfl)
noncomputable def ep6 {α0 α1 α2 α3 α4 α5 : Type} (d : Nonempty (α0 × α1 × α2 × α3 × α4 × α5)) (P : α0 → α1 → α2 → α3 → α4 → α5 → Prop) : α0 × α1 × α2 × α3 × α4 × α5 := @Classical.epsilon _ d fun t => ¬ P (hd1 t) (hd1 (tl1 t)) (hd1 (tl1 (tl1 t))) (hd1 (tl1 (tl1 (tl1 t)))) (hd1 (tl1 (tl1 (tl1 (tl1 t))))) (id1 (tl1 (tl1 (tl1 (tl1 (tl1 t))))))
theorem ep6_all {α0 α1 α2 α3 α4 α5 : Type} {P : α0 → α1 → α2 → α3 → α4 → α5 → Prop} (d : Nonempty (α0 × α1 × α2 × α3 × α4 × α5)) (h : ∀ R : α0 → α1 → α2 → α3 → α4 → α5 → Prop, R = P → R (hd1 (ep6 d P)) (hd1 (tl1 (ep6 d P))) (hd1 (tl1 (tl1 (ep6 d P)))) (hd1 (tl1 (tl1 (tl1 (ep6 d P))))) (hd1 (tl1 (tl1 (tl1 (tl1 (ep6 d P)))))) (id1 (tl1 (tl1 (tl1 (tl1 (tl1 (ep6 d P)))))))) (x0 : α0) (x1 : α1) (x2 : α2) (x3 : α3) (x4 : α4) (x5 : α5) : P x0 x1 x2 x3 x4 x5 :=
  Classical.byContradiction fun hx => (@Classical.epsilon_spec _ (fun t : α0 × α1 × α2 × α3 × α4 × α5 => ¬ P (hd1 t) (hd1 (tl1 t)) (hd1 (tl1 (tl1 t))) (hd1 (tl1 (tl1 (tl1 t)))) (hd1 (tl1 (tl1 (tl1 (tl1 t))))) (id1 (tl1 (tl1 (tl1 (tl1 (tl1 t))))))) ⟨(x0, x1, x2, x3, x4, x5), hx⟩) (h P rfl)
noncomputable def ep7 {α0 α1 α2 α3 α4 α5 α6 : Type} (d : Nonempty (α0 × α1 × α2 × α3 × α4 × α5 × α6)) (P : α0 → α1 → α2 → α3 → α4 → α5 → α6 → Prop) : α0 × α1 × α2 × α3 × α4 × α5 × α6 := @Classical.epsilon _ d fun t => ¬ P (hd1 t) (hd1 (tl1 t)) (hd1 (tl1 (tl1 t))) (hd1 (tl1 (tl1 (tl1 t)))) (hd1 (tl1 (tl1 (tl1 (tl1 t))))) (hd1 (tl1 (tl1 (tl1 (tl1 (tl1 t)))))) (id1 (tl1 (tl1 (tl1 (tl1 (tl1 (tl1 t)))))))
theorem ep7_all {α0 α1 α2 α3 α4 α5 α6 : Type} {P : α0 → α1 → α2 → α3 → α4 → α5 → α6 → Prop} (d : Nonempty (α0 × α1 × α2 × α3 × α4 × α5 × α6)) (h : ∀ R : α0 → α1 → α2 → α3 → α4 → α5 → α6 → Prop, R = P → R (hd1 (ep7 d P)) (hd1 (tl1 (ep7 d P))) (hd1 (tl1 (tl1 (ep7 d P)))) (hd1 (tl1 (tl1 (tl1 (ep7 d P))))) (hd1 (tl1 (tl1 (tl1 (tl1 (ep7 d P)))))) (hd1 (tl1 (tl1 (tl1 (tl1 (tl1 (ep7 d P))))))) (id1 (tl1 (tl1 (tl1 (tl1 (tl1 (tl1 (ep7 d P))))))))) (x0 : α0) (x1 : α1) (x2 : α2) (x3 : α3) (x4 : α4) (x5 : α5) (x6 : α6) : P x0 x1 x2 x3 x4 x5 x6 :=
  Classical.byContradiction fun hx => (@Classical.epsilon_spec _ (fun t : α0 × α1 × α2 × α3 × α4 × α5 × α6 => ¬ P (hd1 t) (hd1 (tl1 t)) (hd1 (tl1 (tl1 t))) (hd1 (tl1 (tl1 (tl1 t)))) (hd1 (tl1 (tl1 (tl1 (tl1 t))))) (hd1 (tl1 (tl1 (tl1 (tl1 (tl1 t)))))) (id1 (tl1 (tl1 (tl1 (tl1 (tl1 (tl1 t)))))))) ⟨(x0, x1, x2, x3, x4, x5, x6), hx⟩) (h P rfl)
noncomputable def ep8 {α0 α1 α2 α3 α4 α5 α6 α7 : Type} (d : Nonempty (α0 × α1 × α2 × α3 × α4 × α5 × α6 × α7)) (P : α0 → α1 → α2 → α3 → α4 → α5 → α6 → α7 → Prop) : α0 × α1 × α2 × α3 × α4 × α5 × α6 × α7 := @Classical.epsilon _ d fun t => ¬ P (hd1 t) (hd1 (tl1 t)) (hd1 (tl1 (tl1 t))) (hd1 (tl1 (tl1 (tl1 t)))) (hd1 (tl1 (tl1 (tl1 (tl1 t))))) (hd1 (tl1 (tl1 (tl1 (tl1 (tl1 t)))))) (hd1 (tl1 (tl1 (tl1 (tl1 (tl1 (tl1 t))))))) (id1 (tl1 (tl1 (tl1 (tl1 (tl1 (tl1 (tl1 t))))))))
theorem ep8_all {α0 α1 α2 α3 α4 α5 α6 α7 : Type} {P : α0 → α1 → α2 → α3 → α4 → α5 → α6 → α7 → Prop} (d : Nonempty (α0 × α1 × α2 × α3 × α4 × α5 × α6 × α7)) (h : ∀ R : α0 → α1 → α2 → α3 → α4 → α5 → α6 → α7 → Prop, R = P → R (hd1 (ep8 d P)) (hd1 (tl1 (ep8 d P))) (hd1 (tl1 (tl1 (ep8 d P)))) (hd1 (tl1 (tl1 (tl1 (ep8 d P))))) (hd1 (tl1 (tl1 (tl1 (tl1 (ep8 d P)))))) (hd1 (tl1 (tl1 (tl1 (tl1 (tl1 (ep8 d P))))))) (hd1 (tl1 (tl1 (tl1 (tl1 (tl1 (tl1 (ep8 d P)))))))) (id1 (tl1 (tl1 (tl1 (tl1 (tl1 (tl1 (tl1 (ep8 d P)))))))))) (x0 : α0) (x1 : α1) (x2 : α2) (x3 : α3) (x4 : α4) (x5 : α5) (x6 : α6) (x7 : α7) : P x0 x1 x2 x3 x4 x5 x6 x7 :=
  Classical.byContradiction fun hx => (@Classical.epsilon_spec _ (fun t : α0 × α1 × α2 × α3 × α4 × α5 × α6 × α7 => ¬ P (hd1 t) (hd1 (tl1 t)) (hd1 (tl1 (tl1 t))) (hd1 (tl1 (tl1 (tl1 t)))) (hd1 (tl1 (tl1 (tl1 (tl1 t))))) (hd1 (tl1 (tl1 (tl1 (tl1 (tl1 t)))))) (hd1 (tl1 (tl1 (tl1 (tl1 (tl1 (tl1 t))))))) (id1 (tl1 (tl1 (tl1 (tl1 (tl1 (tl1 (tl1 t))))))))) ⟨(x0, x1, x2, x3, x4, x5, x6, x7), hx⟩) (h P rfl)
noncomputable def ep9 {α0 α1 α2 α3 α4 α5 α6 α7 α8 : Type} (d : Nonempty (α0 × α1 × α2 × α3 × α4 × α5 × α6 × α7 × α8)) (P : α0 → α1 → α2 → α3 → α4 → α5 → α6 → α7 → α8 → Prop) : α0 × α1 × α2 × α3 × α4 × α5 × α6 × α7 × α8 := @Classical.epsilon _ d fun t => ¬ P (hd1 t) (hd1 (tl1 t)) (hd1 (tl1 (tl1 t))) (hd1 (tl1 (tl1 (tl1 t)))) (hd1 (tl1 (tl1 (tl1 (tl1 t))))) (hd1 (tl1 (tl1 (tl1 (tl1 (tl1 t)))))) (hd1 (tl1 (tl1 (tl1 (tl1 (tl1 (tl1 t))))))) (hd1 (tl1 (tl1 (tl1 (tl1 (tl1 (tl1 (tl1 t)))))))) (id1 (tl1 (tl1 (tl1 (tl1 (tl1 (tl1 (tl1 (tl1 t)))))))))
theorem ep9_all {α0 α1 α2 α3 α4 α5 α6 α7 α8 : Type} {P : α0 → α1 → α2 → α3 → α4 → α5 → α6 → α7 → α8 → Prop} (d : Nonempty (α0 × α1 × α2 × α3 × α4 × α5 × α6 × α7 × α8)) (h : ∀ R : α0 → α1 → α2 → α3 → α4 → α5 → α6 → α7 → α8 → Prop, R = P → R (hd1 (ep9 d P)) (hd1 (tl1 (ep9 d P))) (hd1 (tl1 (tl1 (ep9 d P)))) (hd1 (tl1 (tl1 (tl1 (ep9 d P))))) (hd1 (tl1 (tl1 (tl1 (tl1 (ep9 d P)))))) (hd1 (tl1 (tl1 (tl1 (tl1 (tl1 (ep9 d P))))))) (hd1 (tl1 (tl1 (tl1 (tl1 (tl1 (tl1 (ep9 d P)))))))) (hd1 (tl1 (tl1 (tl1 (tl1 (tl1 (tl1 (tl1 (ep9 d P))))))))) (id1 (tl1 (tl1 (tl1 (tl1 (tl1 (tl1 (tl1 (tl1 (ep9 d P))))))))))) (x0 : α0) (x1 : α1) (x2 : α2) (x3 : α3) (x4 : α4) (x5 : α5) (x6 : α6) (x7 : α7) (x8 : α8) : P x0 x1 x2 x3 x4 x5 x6 x7 x8 :=
  Classical.byContradiction fun hx => (@Classical.epsilon_spec _ (fun t : α0 × α1 × α2 × α3 × α4 × α5 × α6 × α7 × α8 => ¬ P (hd1 t) (hd1 (tl1 t)) (hd1 (tl1 (tl1 t))) (hd1 (tl1 (tl1 (tl1 t)))) (hd1 (tl1 (tl1 (tl1 (tl1 t))))) (hd1 (tl1 (tl1 (tl1 (tl1 (tl1 t)))))) (hd1 (tl1 (tl1 (tl1 (tl1 (tl1 (tl1 t))))))) (hd1 (tl1 (tl1 (tl1 (tl1 (tl1 (tl1 (tl1 t)))))))) (id1 (tl1 (tl1 (tl1 (tl1 (tl1 (tl1 (tl1 (tl1 t)))))))))) ⟨(x0, x1, x2, x3, x4, x5, x6, x7, x8), hx⟩) (h P rfl)
noncomputable def ep10 {α0 α1 α2 α3 α4 α5 α6 α7 α8 α9 : Type} (d : Nonempty (α0 × α1 × α2 × α3 × α4 × α5 × α6 × α7 × α8 × α9)) (P : α0 → α1 → α2 → α3 → α4 → α5 → α6 → α7 → α8 → α9 → Prop) : α0 × α1 × α2 × α3 × α4 × α5 × α6 × α7 × α8 × α9 := @Classical.epsilon _ d fun t => ¬ P (hd1 t) (hd1 (tl1 t)) (hd1 (tl1 (tl1 t))) (hd1 (tl1 (tl1 (tl1 t)))) (hd1 (tl1 (tl1 (tl1 (tl1 t))))) (hd1 (tl1 (tl1 (tl1 (tl1 (tl1 t)))))) (hd1 (tl1 (tl1 (tl1 (tl1 (tl1 (tl1 t))))))) (hd1 (tl1 (tl1 (tl1 (tl1 (tl1 (tl1 (tl1 t)))))))) (hd1 (tl1 (tl1 (tl1 (tl1 (tl1 (tl1 (tl1 (tl1 t))))))))) (id1 (tl1 (tl1 (tl1 (tl1 (tl1 (tl1 (tl1 (tl1 (tl1 t))))))))))
theorem ep10_all {α0 α1 α2 α3 α4 α5 α6 α7 α8 α9 : Type} {P : α0 → α1 → α2 → α3 → α4 → α5 → α6 → α7 → α8 → α9 → Prop} (d : Nonempty (α0 × α1 × α2 × α3 × α4 × α5 × α6 × α7 × α8 × α9)) (h : ∀ R : α0 → α1 → α2 → α3 → α4 → α5 → α6 → α7 → α8 → α9 → Prop, R = P → R (hd1 (ep10 d P)) (hd1 (tl1 (ep10 d P))) (hd1 (tl1 (tl1 (ep10 d P)))) (hd1 (tl1 (tl1 (tl1 (ep10 d P))))) (hd1 (tl1 (tl1 (tl1 (tl1 (ep10 d P)))))) (hd1 (tl1 (tl1 (tl1 (tl1 (tl1 (ep10 d P))))))) (hd1 (tl1 (tl1 (tl1 (tl1 (tl1 (tl1 (ep10 d P)))))))) (hd1 (tl1 (tl1 (tl1 (tl1 (tl1 (tl1 (tl1 (ep10 d P))))))))) (hd1 (tl1 (tl1 (tl1 (tl1 (tl1 (tl1 (tl1 (tl1 (ep10 d P)))))))))) (id1 (tl1 (tl1 (tl1 (tl1 (tl1 (tl1 (tl1 (tl1 (tl1 (ep10 d P)))))))))))) (x0 : α0) (x1 : α1) (x2 : α2) (x3 : α3) (x4 : α4) (x5 : α5) (x6 : α6) (x7 : α7) (x8 : α8) (x9 : α9) : P x0 x1 x2 x3 x4 x5 x6 x7 x8 x9 :=
  Classical.byContradiction fun hx => (@Classical.epsilon_spec _ (fun t : α0 × α1 × α2 × α3 × α4 × α5 × α6 × α7 × α8 × α9 => ¬ P (hd1 t) (hd1 (tl1 t)) (hd1 (tl1 (tl1 t))) (hd1 (tl1 (tl1 (tl1 t)))) (hd1 (tl1 (tl1 (tl1 (tl1 t))))) (hd1 (tl1 (tl1 (tl1 (tl1 (tl1 t)))))) (hd1 (tl1 (tl1 (tl1 (tl1 (tl1 (tl1 t))))))) (hd1 (tl1 (tl1 (tl1 (tl1 (tl1 (tl1 (tl1 t)))))))) (hd1 (tl1 (tl1 (tl1 (tl1 (tl1 (tl1 (tl1 (tl1 t))))))))) (id1 (tl1 (tl1 (tl1 (tl1 (tl1 (tl1 (tl1 (tl1 (tl1 t))))))))))) ⟨(x0, x1, x2, x3, x4, x5, x6, x7, x8, x9), hx⟩) (h P rfl)
noncomputable def ep11 {α0 α1 α2 α3 α4 α5 α6 α7 α8 α9 α10 : Type} (d : Nonempty (α0 × α1 × α2 × α3 × α4 × α5 × α6 × α7 × α8 × α9 × α10)) (P : α0 → α1 → α2 → α3 → α4 → α5 → α6 → α7 → α8 → α9 → α10 → Prop) : α0 × α1 × α2 × α3 × α4 × α5 × α6 × α7 × α8 × α9 × α10 := @Classical.epsilon _ d fun t => ¬ P (hd1 t) (hd1 (tl1 t)) (hd1 (tl1 (tl1 t))) (hd1 (tl1 (tl1 (tl1 t)))) (hd1 (tl1 (tl1 (tl1 (tl1 t))))) (hd1 (tl1 (tl1 (tl1 (tl1 (tl1 t)))))) (hd1 (tl1 (tl1 (tl1 (tl1 (tl1 (tl1 t))))))) (hd1 (tl1 (tl1 (tl1 (tl1 (tl1 (tl1 (tl1 t)))))))) (hd1 (tl1 (tl1 (tl1 (tl1 (tl1 (tl1 (tl1 (tl1 t))))))))) (hd1 (tl1 (tl1 (tl1 (tl1 (tl1 (tl1 (tl1 (tl1 (tl1 t)))))))))) (id1 (tl1 (tl1 (tl1 (tl1 (tl1 (tl1 (tl1 (tl1 (tl1 (tl1 t)))))))))))
theorem ep11_all {α0 α1 α2 α3 α4 α5 α6 α7 α8 α9 α10 : Type} {P : α0 → α1 → α2 → α3 → α4 → α5 → α6 → α7 → α8 → α9 → α10 → Prop} (d : Nonempty (α0 × α1 × α2 × α3 × α4 × α5 × α6 × α7 × α8 × α9 × α10)) (h : ∀ R : α0 → α1 → α2 → α3 → α4 → α5 → α6 → α7 → α8 → α9 → α10 → Prop, R = P → R (hd1 (ep11 d P)) (hd1 (tl1 (ep11 d P))) (hd1 (tl1 (tl1 (ep11 d P)))) (hd1 (tl1 (tl1 (tl1 (ep11 d P))))) (hd1 (tl1 (tl1 (tl1 (tl1 (ep11 d P)))))) (hd1 (tl1 (tl1 (tl1 (tl1 (tl1 (ep11 d P))))))) (hd1 (tl1 (tl1 (tl1 (tl1 (tl1 (tl1 (ep11 d P)))))))) (hd1 (tl1 (tl1 (tl1 (tl1 (tl1 (tl1 (tl1 (ep11 d P))))))))) (hd1 (tl1 (tl1 (tl1 (tl1 (tl1 (tl1 (tl1 (tl1 (ep11 d P)))))))))) (hd1 (tl1 (tl1 (tl1 (tl1 (tl1 (tl1 (tl1 (tl1 (tl1 (ep11 d P))))))))))) (id1 (tl1 (tl1 (tl1 (tl1 (tl1 (tl1 (tl1 (tl1 (tl1 (tl1 (ep11 d P))))))))))))) (x0 : α0) (x1 : α1) (x2 : α2) (x3 : α3) (x4 : α4) (x5 : α5) (x6 : α6) (x7 : α7) (x8 : α8) (x9 : α9) (x10 : α10) : P x0 x1 x2 x3 x4 x5 x6 x7 x8 x9 x10 :=
  Classical.byContradiction fun hx => (@Classical.epsilon_spec _ (fun t : α0 × α1 × α2 × α3 × α4 × α5 × α6 × α7 × α8 × α9 × α10 => ¬ P (hd1 t) (hd1 (tl1 t)) (hd1 (tl1 (tl1 t))) (hd1 (tl1 (tl1 (tl1 t)))) (hd1 (tl1 (tl1 (tl1 (tl1 t))))) (hd1 (tl1 (tl1 (tl1 (tl1 (tl1 t)))))) (hd1 (tl1 (tl1 (tl1 (tl1 (tl1 (tl1 t))))))) (hd1 (tl1 (tl1 (tl1 (tl1 (tl1 (tl1 (tl1 t)))))))) (hd1 (tl1 (tl1 (tl1 (tl1 (tl1 (tl1 (tl1 (tl1 t))))))))) (hd1 (tl1 (tl1 (tl1 (tl1 (tl1 (tl1 (tl1 (tl1 (tl1 t)))))))))) (id1 (tl1 (tl1 (tl1 (tl1 (tl1 (tl1 (tl1 (tl1 (tl1 (tl1 t)))))))))))) ⟨(x0, x1, x2, x3, x4, x5, x6, x7, x8, x9, x10), hx⟩) (h P rfl)
noncomputable def ep12 {α0 α1 α2 α3 α4 α5 α6 α7 α8 α9 α10 α11 : Type} (d : Nonempty (α0 × α1 × α2 × α3 × α4 × α5 × α6 × α7 × α8 × α9 × α10 × α11)) (P : α0 → α1 → α2 → α3 → α4 → α5 → α6 → α7 → α8 → α9 → α10 → α11 → Prop) : α0 × α1 × α2 × α3 × α4 × α5 × α6 × α7 × α8 × α9 × α10 × α11 := @Classical.epsilon _ d fun t => ¬ P (hd1 t) (hd1 (tl1 t)) (hd1 (tl1 (tl1 t))) (hd1 (tl1 (tl1 (tl1 t)))) (hd1 (tl1 (tl1 (tl1 (tl1 t))))) (hd1 (tl1 (tl1 (tl1 (tl1 (tl1 t)))))) (hd1 (tl1 (tl1 (tl1 (tl1 (tl1 (tl1 t))))))) (hd1 (tl1 (tl1 (tl1 (tl1 (tl1 (tl1 (tl1 t)))))))) (hd1 (tl1 (tl1 (tl1 (tl1 (tl1 (tl1 (tl1 (tl1 t))))))))) (hd1 (tl1 (tl1 (tl1 (tl1 (tl1 (tl1 (tl1 (tl1 (tl1 t)))))))))) (hd1 (tl1 (tl1 (tl1 (tl1 (tl1 (tl1 (tl1 (tl1 (tl1 (tl1 t))))))))))) (id1 (tl1 (tl1 (tl1 (tl1 (tl1 (tl1 (tl1 (tl1 (tl1 (tl1 (tl1 t))))))))))))
theorem ep12_all {α0 α1 α2 α3 α4 α5 α6 α7 α8 α9 α10 α11 : Type} {P : α0 → α1 → α2 → α3 → α4 → α5 → α6 → α7 → α8 → α9 → α10 → α11 → Prop} (d : Nonempty (α0 × α1 × α2 × α3 × α4 × α5 × α6 × α7 × α8 × α9 × α10 × α11)) (h : ∀ R : α0 → α1 → α2 → α3 → α4 → α5 → α6 → α7 → α8 → α9 → α10 → α11 → Prop, R = P → R (hd1 (ep12 d P)) (hd1 (tl1 (ep12 d P))) (hd1 (tl1 (tl1 (ep12 d P)))) (hd1 (tl1 (tl1 (tl1 (ep12 d P))))) (hd1 (tl1 (tl1 (tl1 (tl1 (ep12 d P)))))) (hd1 (tl1 (tl1 (tl1 (tl1 (tl1 (ep12 d P))))))) (hd1 (tl1 (tl1 (tl1 (tl1 (tl1 (tl1 (ep12 d P)))))))) (hd1 (tl1 (tl1 (tl1 (tl1 (tl1 (tl1 (tl1 (ep12 d P))))))))) (hd1 (tl1 (tl1 (tl1 (tl1 (tl1 (tl1 (tl1 (tl1 (ep12 d P)))))))))) (hd1 (tl1 (tl1 (tl1 (tl1 (tl1 (tl1 (tl1 (tl1 (tl1 (ep12 d P))))))))))) (hd1 (tl1 (tl1 (tl1 (tl1 (tl1 (tl1 (tl1 (tl1 (tl1 (tl1 (ep12 d P)))))))))))) (id1 (tl1 (tl1 (tl1 (tl1 (tl1 (tl1 (tl1 (tl1 (tl1 (tl1 (tl1 (ep12 d P)))))))))))))) (x0 : α0) (x1 : α1) (x2 : α2) (x3 : α3) (x4 : α4) (x5 : α5) (x6 : α6) (x7 : α7) (x8 : α8) (x9 : α9) (x10 : α10) (x11 : α11) : P x0 x1 x2 x3 x4 x5 x6 x7 x8 x9 x10 x11 :=
  Classical.byContradiction fun hx => (@Classical.epsilon_spec _ (fun t : α0 × α1 × α2 × α3 × α4 × α5 × α6 × α7 × α8 × α9 × α10 × α11 => ¬ P (hd1 t) (hd1 (tl1 t)) (hd1 (tl1 (tl1 t))) (hd1 (tl1 (tl1 (tl1 t)))) (hd1 (tl1 (tl1 (tl1 (tl1 t))))) (hd1 (tl1 (tl1 (tl1 (tl1 (tl1 t)))))) (hd1 (tl1 (tl1 (tl1 (tl1 (tl1 (tl1 t))))))) (hd1 (tl1 (tl1 (tl1 (tl1 (tl1 (tl1 (tl1 t)))))))) (hd1 (tl1 (tl1 (tl1 (tl1 (tl1 (tl1 (tl1 (tl1 t))))))))) (hd1 (tl1 (tl1 (tl1 (tl1 (tl1 (tl1 (tl1 (tl1 (tl1 t)))))))))) (hd1 (tl1 (tl1 (tl1 (tl1 (tl1 (tl1 (tl1 (tl1 (tl1 (tl1 t))))))))))) (id1 (tl1 (tl1 (tl1 (tl1 (tl1 (tl1 (tl1 (tl1 (tl1 (tl1 (tl1 t))))))))))))) ⟨(x0, x1, x2, x3, x4, x5, x6, x7, x8, x9, x10, x11), hx⟩) (h P rfl)
noncomputable def ep13 {α0 α1 α2 α3 α4 α5 α6 α7 α8 α9 α10 α11 α12 : Type} (d : Nonempty (α0 × α1 × α2 × α3 × α4 × α5 × α6 × α7 × α8 × α9 × α10 × α11 × α12)) (P : α0 → α1 → α2 → α3 → α4 → α5 → α6 → α7 → α8 → α9 → α10 → α11 → α12 → Prop) : α0 × α1 × α2 × α3 × α4 × α5 × α6 × α7 × α8 × α9 × α10 × α11 × α12 := @Classical.epsilon _ d fun t => ¬ P (hd1 t) (hd1 (tl1 t)) (hd1 (tl1 (tl1 t))) (hd1 (tl1 (tl1 (tl1 t)))) (hd1 (tl1 (tl1 (tl1 (tl1 t))))) (hd1 (tl1 (tl1 (tl1 (tl1 (tl1 t)))))) (hd1 (tl1 (tl1 (tl1 (tl1 (tl1 (tl1 t))))))) (hd1 (tl1 (tl1 (tl1 (tl1 (tl1 (tl1 (tl1 t)))))))) (hd1 (tl1 (tl1 (tl1 (tl1 (tl1 (tl1 (tl1 (tl1 t))))))))) (hd1 (tl1 (tl1 (tl1 (tl1 (tl1 (tl1 (tl1 (tl1 (tl1 t)))))))))) (hd1 (tl1 (tl1 (tl1 (tl1 (tl1 (tl1 (tl1 (tl1 (tl1 (tl1 t))))))))))) (hd1 (tl1 (tl1 (tl1 (tl1 (tl1 (tl1 (tl1 (tl1 (tl1 (tl1 (tl1 t)))))))))))) (id1 (tl1 (tl1 (tl1 (tl1 (tl1 (tl1 (tl1 (tl1 (tl1 (tl1 (tl1 (tl1 t)))))))))))))
theorem ep13_all {α0 α1 α2 α3 α4 α5 α6 α7 α8 α9 α10 α11 α12 : Type} {P : α0 → α1 → α2 → α3 → α4 → α5 → α6 → α7 → α8 → α9 → α10 → α11 → α12 → Prop} (d : Nonempty (α0 × α1 × α2 × α3 × α4 × α5 × α6 × α7 × α8 × α9 × α10 × α11 × α12)) (h : ∀ R : α0 → α1 → α2 → α3 → α4 → α5 → α6 → α7 → α8 → α9 → α10 → α11 → α12 → Prop, R = P → R (hd1 (ep13 d P)) (hd1 (tl1 (ep13 d P))) (hd1 (tl1 (tl1 (ep13 d P)))) (hd1 (tl1 (tl1 (tl1 (ep13 d P))))) (hd1 (tl1 (tl1 (tl1 (tl1 (ep13 d P)))))) (hd1 (tl1 (tl1 (tl1 (tl1 (tl1 (ep13 d P))))))) (hd1 (tl1 (tl1 (tl1 (tl1 (tl1 (tl1 (ep13 d P)))))))) (hd1 (tl1 (tl1 (tl1 (tl1 (tl1 (tl1 (tl1 (ep13 d P))))))))) (hd1 (tl1 (tl1 (tl1 (tl1 (tl1 (tl1 (tl1 (tl1 (ep13 d P)))))))))) (hd1 (tl1 (tl1 (tl1 (tl1 (tl1 (tl1 (tl1 (tl1 (tl1 (ep13 d P))))))))))) (hd1 (tl1 (tl1 (tl1 (tl1 (tl1 (tl1 (tl1 (tl1 (tl1 (tl1 (ep13 d P)))))))))))) (hd1 (tl1 (tl1 (tl1 (tl1 (tl1 (tl1 (tl1 (tl1 (tl1 (tl1 (tl1 (ep13 d P))))))))))))) (id1 (tl1 (tl1 (tl1 (tl1 (tl1 (tl1 (tl1 (tl1 (tl1 (tl1 (tl1 (tl1 (ep13 d P))))))))))))))) (x0 : α0) (x1 : α1) (x2 : α2) (x3 : α3) (x4 : α4) (x5 : α5) (x6 : α6) (x7 : α7) (x8 : α8) (x9 : α9) (x10 : α10) (x11 : α11) (x12 : α12) : P x0 x1 x2 x3 x4 x5 x6 x7 x8 x9 x10 x11 x12 :=
  Classical.byContradiction fun hx => (@Classical.epsilon_spec _ (fun t : α0 × α1 × α2 × α3 × α4 × α5 × α6 × α7 × α8 × α9 × α10 × α11 × α12 => ¬ P (hd1 t) (hd1 (tl1 t)) (hd1 (tl1 (tl1 t))) (hd1 (tl1 (tl1 (tl1 t)))) (hd1 (tl1 (tl1 (tl1 (tl1 t))))) (hd1 (tl1 (tl1 (tl1 (tl1 (tl1 t)))))) (hd1 (tl1 (tl1 (tl1 (tl1 (tl1 (tl1 t))))))) (hd1 (tl1 (tl1 (tl1 (tl1 (tl1 (tl1 (tl1 t)))))))) (hd1 (tl1 (tl1 (tl1 (tl1 (tl1 (tl1 (tl1 (tl1 t))))))))) (hd1 (tl1 (tl1 (tl1 (tl1 (tl1 (tl1 (tl1 (tl1 (tl1 t)))))))))) (hd1 (tl1 (tl1 (tl1 (tl1 (tl1 (tl1 (tl1 (tl1 (tl1 (tl1 t))))))))))) (hd1 (tl1 (tl1 (tl1 (tl1 (tl1 (tl1 (tl1 (tl1 (tl1 (tl1 (tl1 t)))))))))))) (id1 (tl1 (tl1 (tl1 (tl1 (tl1 (tl1 (tl1 (tl1 (tl1 (tl1 (tl1 (tl1 t)))))))))))))) ⟨(x0, x1, x2, x3, x4, x5, x6, x7, x8, x9, x10, x11, x12), hx⟩) (h P rfl)
noncomputable def ep14 {α0 α1 α2 α3 α4 α5 α6 α7 α8 α9 α10 α11 α12 α13 : Type} (d : Nonempty (α0 × α1 × α2 × α3 × α4 × α5 × α6 × α7 × α8 × α9 × α10 × α11 × α12 × α13)) (P : α0 → α1 → α2 → α3 → α4 → α5 → α6 → α7 → α8 → α9 → α10 → α11 → α12 → α13 → Prop) : α0 × α1 × α2 × α3 × α4 × α5 × α6 × α7 × α8 × α9 × α10 × α11 × α12 × α13 := @Classical.epsilon _ d fun t => ¬ P (hd1 t) (hd1 (tl1 t)) (hd1 (tl1 (tl1 t))) (hd1 (tl1 (tl1 (tl1 t)))) (hd1 (tl1 (tl1 (tl1 (tl1 t))))) (hd1 (tl1 (tl1 (tl1 (tl1 (tl1 t)))))) (hd1 (tl1 (tl1 (tl1 (tl1 (tl1 (tl1 t))))))) (hd1 (tl1 (tl1 (tl1 (tl1 (tl1 (tl1 (tl1 t)))))))) (hd1 (tl1 (tl1 (tl1 (tl1 (tl1 (tl1 (tl1 (tl1 t))))))))) (hd1 (tl1 (tl1 (tl1 (tl1 (tl1 (tl1 (tl1 (tl1 (tl1 t)))))))))) (hd1 (tl1 (tl1 (tl1 (tl1 (tl1 (tl1 (tl1 (tl1 (tl1 (tl1 t))))))))))) (hd1 (tl1 (tl1 (tl1 (tl1 (tl1 (tl1 (tl1 (tl1 (tl1 (tl1 (tl1 t)))))))))))) (hd1 (tl1 (tl1 (tl1 (tl1 (tl1 (tl1 (tl1 (tl1 (tl1 (tl1 (tl1 (tl1 t))))))))))))) (id1 (tl1 (tl1 (tl1 (tl1 (tl1 (tl1 (tl1 (tl1 (tl1 (tl1 (tl1 (tl1 (tl1 t))))))))))))))
theorem ep14_all {α0 α1 α2 α3 α4 α5 α6 α7 α8 α9 α10 α11 α12 α13 : Type} {P : α0 → α1 → α2 → α3 → α4 → α5 → α6 → α7 → α8 → α9 → α10 → α11 → α12 → α13 → Prop} (d : Nonempty (α0 × α1 × α2 × α3 × α4 × α5 × α6 × α7 × α8 × α9 × α10 × α11 × α12 × α13)) (h : ∀ R : α0 → α1 → α2 → α3 → α4 → α5 → α6 → α7 → α8 → α9 → α10 → α11 → α12 → α13 → Prop, R = P → R (hd1 (ep14 d P)) (hd1 (tl1 (ep14 d P))) (hd1 (tl1 (tl1 (ep14 d P)))) (hd1 (tl1 (tl1 (tl1 (ep14 d P))))) (hd1 (tl1 (tl1 (tl1 (tl1 (ep14 d P)))))) (hd1 (tl1 (tl1 (tl1 (tl1 (tl1 (ep14 d P))))))) (hd1 (tl1 (tl1 (tl1 (tl1 (tl1 (tl1 (ep14 d P)))))))) (hd1 (tl1 (tl1 (tl1 (tl1 (tl1 (tl1 (tl1 (ep14 d P))))))))) (hd1 (tl1 (tl1 (tl1 (tl1 (tl1 (tl1 (tl1 (tl1 (ep14 d P)))))))))) (hd1 (tl1 (tl1 (tl1 (tl1 (tl1 (tl1 (tl1 (tl1 (tl1 (ep14 d P))))))))))) (hd1 (tl1 (tl1 (tl1 (tl1 (tl1 (tl1 (tl1 (tl1 (tl1 (tl1 (ep14 d P)))))))))))) (hd1 (tl1 (tl1 (tl1 (tl1 (tl1 (tl1 (tl1 (tl1 (tl1 (tl1 (tl1 (ep14 d P))))))))))))) (hd1 (tl1 (tl1 (tl1 (tl1 (tl1 (tl1 (tl1 (tl1 (tl1 (tl1 (tl1 (tl1 (ep14 d P)))))))))))))) (id1 (tl1 (tl1 (tl1 (tl1 (tl1 (tl1 (tl1 (tl1 (tl1 (tl1 (tl1 (tl1 (tl1 (ep14 d P)))))))))))))))) (x0 : α0) (x1 : α1) (x2 : α2) (x3 : α3) (x4 : α4) (x5 : α5) (x6 : α6) (x7 : α7) (x8 : α8) (x9 : α9) (x10 : α10) (x11 : α11) (x12 : α12) (x13 : α13) : P x0 x1 x2 x3 x4 x5 x6 x7 x8 x9 x10 x11 x12 x13 :=
  Classical.byContradiction fun hx => (@Classical.epsilon_spec _ (fun t : α0 × α1 × α2 × α3 × α4 × α5 × α6 × α7 × α8 × α9 × α10 × α11 × α12 × α13 => ¬ P (hd1 t) (hd1 (tl1 t)) (hd1 (tl1 (tl1 t))) (hd1 (tl1 (tl1 (tl1 t)))) (hd1 (tl1 (tl1 (tl1 (tl1 t))))) (hd1 (tl1 (tl1 (tl1 (tl1 (tl1 t)))))) (hd1 (tl1 (tl1 (tl1 (tl1 (tl1 (tl1 t))))))) (hd1 (tl1 (tl1 (tl1 (tl1 (tl1 (tl1 (tl1 t)))))))) (hd1 (tl1 (tl1 (tl1 (tl1 (tl1 (tl1 (tl1 (tl1 t))))))))) (hd1 (tl1 (tl1 (tl1 (tl1 (tl1 (tl1 (tl1 (tl1 (tl1 t)))))))))) (hd1 (tl1 (tl1 (tl1 (tl1 (tl1 (tl1 (tl1 (tl1 (tl1 (tl1 t))))))))))) (hd1 (tl1 (tl1 (tl1 (tl1 (tl1 (tl1 (tl1 (tl1 (tl1 (tl1 (tl1 t)))))))))))) (hd1 (tl1 (tl1 (tl1 (tl1 (tl1 (tl1 (tl1 (tl1 (tl1 (tl1 (tl1 (tl1 t))))))))))))) (id1 (tl1 (tl1 (tl1 (tl1 (tl1 (tl1 (tl1 (tl1 (tl1 (tl1 (tl1 (tl1 (tl1 t))))))))))))))) ⟨(x0, x1, x2, x3, x4, x5, x6, x7, x8, x9, x10, x11, x12, x13), hx⟩) (h P rfl)
noncomputable def ep19 {α0 α1 α2 α3 α4 α5 α6 α7 α8 α9 α10 α11 α12 α13 α14 α15 α16 α17 α18 : Type} (d : Nonempty (α0 × α1 × α2 × α3 × α4 × α5 × α6 × α7 × α8 × α9 × α10 × α11 × α12 × α13 × α14 × α15 × α16 × α17 × α18)) (P : α0 → α1 → α2 → α3 → α4 → α5 → α6 → α7 → α8 → α9 → α10 → α11 → α12 → α13 → α14 → α15 → α16 → α17 → α18 → Prop) : α0 × α1 × α2 × α3 × α4 × α5 × α6 × α7 × α8 × α9 × α10 × α11 × α12 × α13 × α14 × α15 × α16 × α17 × α18 := @Classical.epsilon _ d fun t => ¬ P (hd1 t) (hd1 (tl1 t)) (hd1 (tl1 (tl1 t))) (hd1 (tl1 (tl1 (tl1 t)))) (hd1 (tl1 (tl1 (tl1 (tl1 t))))) (hd1 (tl1 (tl1 (tl1 (tl1 (tl1 t)))))) (hd1 (tl1 (tl1 (tl1 (tl1 (tl1 (tl1 t))))))) (hd1 (tl1 (tl1 (tl1 (tl1 (tl1 (tl1 (tl1 t)))))))) (hd1 (tl1 (tl1 (tl1 (tl1 (tl1 (tl1 (tl1 (tl1 t))))))))) (hd1 (tl1 (tl1 (tl1 (tl1 (tl1 (tl1 (tl1 (tl1 (tl1 t)))))))))) (hd1 (tl1 (tl1 (tl1 (tl1 (tl1 (tl1 (tl1 (tl1 (tl1 (tl1 t))))))))))) (hd1 (tl1 (tl1 (tl1 (tl1 (tl1 (tl1 (tl1 (tl1 (tl1 (tl1 (tl1 t)))))))))))) (hd1 (tl1 (tl1 (tl1 (tl1 (tl1 (tl1 (tl1 (tl1 (tl1 (tl1 (tl1 (tl1 t))))))))))))) (hd1 (tl1 (tl1 (tl1 (tl1 (tl1 (tl1 (tl1 (tl1 (tl1 (tl1 (tl1 (tl1 (tl1 t)))))))))))))) (hd1 (tl1 (tl1 (tl1 (tl1 (tl1 (tl1 (tl1 (tl1 (tl1 (tl1 (tl1 (tl1 (tl1 (tl1 t))))))))))))))) (hd1 (tl1 (tl1 (tl1 (tl1 (tl1 (tl1 (tl1 (tl1 (tl1 (tl1 (tl1 (tl1 (tl1 (tl1 (tl1 t)))))))))))))))) (hd1 (tl1 (tl1 (tl1 (tl1 (tl1 (tl1 (tl1 (tl1 (tl1 (tl1 (tl1 (tl1 (tl1 (tl1 (tl1 (tl1 t))))))))))))))))) (hd1 (tl1 (tl1 (tl1 (tl1 (tl1 (tl1 (tl1 (tl1 (tl1 (tl1 (tl1 (tl1 (tl1 (tl1 (tl1 (tl1 (tl1 t)))))))))))))))))) (id1 (tl1 (tl1 (tl1 (tl1 (tl1 (tl1 (tl1 (tl1 (tl1 (tl1 (tl1 (tl1 (tl1 (tl1 (tl1 (tl1 (tl1 (tl1 t)))))))))))))))))))
theorem ep19_all {α0 α1 α2 α3 α4 α5 α6 α7 α8 α9 α10 α11 α12 α13 α14 α15 α16 α17 α18 : Type} {P : α0 → α1 → α2 → α3 → α4 → α5 → α6 → α7 → α8 → α9 → α10 → α11 → α12 → α13 → α14 → α15 → α16 → α17 → α18 → Prop} (d : Nonempty (α0 × α1 × α2 × α3 × α4 × α5 × α6 × α7 × α8 × α9 × α10 × α11 × α12 × α13 × α14 × α15 × α16 × α17 × α18)) (h : ∀ R : α0 → α1 → α2 → α3 → α4 → α5 → α6 → α7 → α8 → α9 → α10 → α11 → α12 → α13 → α14 → α15 → α16 → α17 → α18 → Prop, R = P → R (hd1 (ep19 d P)) (hd1 (tl1 (ep19 d P))) (hd1 (tl1 (tl1 (ep19 d P)))) (hd1 (tl1 (tl1 (tl1 (ep19 d P))))) (hd1 (tl1 (tl1 (tl1 (tl1 (ep19 d P)))))) (hd1 (tl1 (tl1 (tl1 (tl1 (tl1 (ep19 d P))))))) (hd1 (tl1 (tl1 (tl1 (tl1 (tl1 (tl1 (ep19 d P)))))))) (hd1 (tl1 (tl1 (tl1 (tl1 (tl1 (tl1 (tl1 (ep19 d P))))))))) (hd1 (tl1 (tl1 (tl1 (tl1 (tl1 (tl1 (tl1 (tl1 (ep19 d P)))))))))) (hd1 (tl1 (tl1 (tl1 (tl1 (tl1 (tl1 (tl1 (tl1 (tl1 (ep19 d P))))))))))) (hd1 (tl1 (tl1 (tl1 (tl1 (tl1 (tl1 (tl1 (tl1 (tl1 (tl1 (ep19 d P)))))))))))) (hd1 (tl1 (tl1 (tl1 (tl1 (tl1 (tl1 (tl1 (tl1 (tl1 (tl1 (tl1 (ep19 d P))))))))))))) (hd1 (tl1 (tl1 (tl1 (tl1 (tl1 (tl1 (tl1 (tl1 (tl1 (tl1 (tl1 (tl1 (ep19 d P)))))))))))))) (hd1 (tl1 (tl1 (tl1 (tl1 (tl1 (tl1 (tl1 (tl1 (tl1 (tl1 (tl1 (tl1 (tl1 (ep19 d P))))))))))))))) (hd1 (tl1 (tl1 (tl1 (tl1 (tl1 (tl1 (tl1 (tl1 (tl1 (tl1 (tl1 (tl1 (tl1 (tl1 (ep19 d P)))))))))))))))) (hd1 (tl1 (tl1 (tl1 (tl1 (tl1 (tl1 (tl1 (tl1 (tl1 (tl1 (tl1 (tl1 (tl1 (tl1 (tl1 (ep19 d P))))))))))))))))) (hd1 (tl1 (tl1 (tl1 (tl1 (tl1 (tl1 (tl1 (tl1 (tl1 (tl1 (tl1 (tl1 (tl1 (tl1 (tl1 (tl1 (ep19 d P)))))))))))))))))) (hd1 (tl1 (tl1 (tl1 (tl1 (tl1 (tl1 (tl1 (tl1 (tl1 (tl1 (tl1 (tl1 (tl1 (tl1 (tl1 (tl1 (tl1 (ep19 d P))))))))))))))))))) (id1 (tl1 (tl1 (tl1 (tl1 (tl1 (tl1 (tl1 (tl1 (tl1 (tl1 (tl1 (tl1 (tl1 (tl1 (tl1 (tl1 (tl1 (tl1 (ep19 d P))))))))))))))))))))) (x0 : α0) (x1 : α1) (x2 : α2) (x3 : α3) (x4 : α4) (x5 : α5) (x6 : α6) (x7 : α7) (x8 : α8) (x9 : α9) (x10 : α10) (x11 : α11) (x12 : α12) (x13 : α13) (x14 : α14) (x15 : α15) (x16 : α16) (x17 : α17) (x18 : α18) : P x0 x1 x2 x3 x4 x5 x6 x7 x8 x9 x10 x11 x12 x13 x14 x15 x16 x17 x18 :=
  Classical.byContradiction fun hx => (@Classical.epsilon_spec _ (fun t : α0 × α1 × α2 × α3 × α4 × α5 × α6 × α7 × α8 × α9 × α10 × α11 × α12 × α13 × α14 × α15 × α16 × α17 × α18 => ¬ P (hd1 t) (hd1 (tl1 t)) (hd1 (tl1 (tl1 t))) (hd1 (tl1 (tl1 (tl1 t)))) (hd1 (tl1 (tl1 (tl1 (tl1 t))))) (hd1 (tl1 (tl1 (tl1 (tl1 (tl1 t)))))) (hd1 (tl1 (tl1 (tl1 (tl1 (tl1 (tl1 t))))))) (hd1 (tl1 (tl1 (tl1 (tl1 (tl1 (tl1 (tl1 t)))))))) (hd1 (tl1 (tl1 (tl1 (tl1 (tl1 (tl1 (tl1 (tl1 t))))))))) (hd1 (tl1 (tl1 (tl1 (tl1 (tl1 (tl1 (tl1 (tl1 (tl1 t)))))))))) (hd1 (tl1 (tl1 (tl1 (tl1 (tl1 (tl1 (tl1 (tl1 (tl1 (tl1 t))))))))))) (hd1 (tl1 (tl1 (tl1 (tl1 (tl1 (tl1 (tl1 (tl1 (tl1 (tl1 (tl1 t)))))))))))) (hd1 (tl1 (tl1 (tl1 (tl1 (tl1 (tl1 (tl1 (tl1 (tl1 (tl1 (tl1 (tl1 t))))))))))))) (hd1 (tl1 (tl1 (tl1 (tl1 (tl1 (tl1 (tl1 (tl1 (tl1 (tl1 (tl1 (tl1 (tl1 t)))))))))))))) (hd1 (tl1 (tl1 (tl1 (tl1 (tl1 (tl1 (tl1 (tl1 (tl1 (tl1 (tl1 (tl1 (tl1 (tl1 t))))))))))))))) (hd1 (tl1 (tl1 (tl1 (tl1 (tl1 (tl1 (tl1 (tl1 (tl1 (tl1 (tl1 (tl1 (tl1 (tl1 (tl1 t)))))))))))))))) (hd1 (tl1 (tl1 (tl1 (tl1 (tl1 (tl1 (tl1 (tl1 (tl1 (tl1 (tl1 (tl1 (tl1 (tl1 (tl1 (tl1 t))))))))))))))))) (hd1 (tl1 (tl1 (tl1 (tl1 (tl1 (tl1 (tl1 (tl1 (tl1 (tl1 (tl1 (tl1 (tl1 (tl1 (tl1 (tl1 (tl1 t)))))))))))))))))) (id1 (tl1 (tl1 (tl1 (tl1 (tl1 (tl1 (tl1 (tl1 (tl1 (tl1 (tl1 (tl1 (tl1 (tl1 (tl1 (tl1 (tl1 (tl1 t)))))))))))))))))))) ⟨(x0, x1, x2, x3, x4, x5, x6, x7, x8, x9, x10, x11, x12, x13, x14, x15, x16, x17, x18), hx⟩) (h P rfl)
noncomputable def ep22 {α0 α1 α2 α3 α4 α5 α6 α7 α8 α9 α10 α11 α12 α13 α14 α15 α16 α17 α18 α19 α20 α21 : Type} (d : Nonempty (α0 × α1 × α2 × α3 × α4 × α5 × α6 × α7 × α8 × α9 × α10 × α11 × α12 × α13 × α14 × α15 × α16 × α17 × α18 × α19 × α20 × α21)) (P : α0 → α1 → α2 → α3 → α4 → α5 → α6 → α7 → α8 → α9 → α10 → α11 → α12 → α13 → α14 → α15 → α16 → α17 → α18 → α19 → α20 → α21 → Prop) : α0 × α1 × α2 × α3 × α4 × α5 × α6 × α7 × α8 × α9 × α10 × α11 × α12 × α13 × α14 × α15 × α16 × α17 × α18 × α19 × α20 × α21 := @Classical.epsilon _ d fun t => ¬ P (hd1 t) (hd1 (tl1 t)) (hd1 (tl1 (tl1 t))) (hd1 (tl1 (tl1 (tl1 t)))) (hd1 (tl1 (tl1 (tl1 (tl1 t))))) (hd1 (tl1 (tl1 (tl1 (tl1 (tl1 t)))))) (hd1 (tl1 (tl1 (tl1 (tl1 (tl1 (tl1 t))))))) (hd1 (tl1 (tl1 (tl1 (tl1 (tl1 (tl1 (tl1 t)))))))) (hd1 (tl1 (tl1 (tl1 (tl1 (tl1 (tl1 (tl1 (tl1 t))))))))) (hd1 (tl1 (tl1 (tl1 (tl1 (tl1 (tl1 (tl1 (tl1 (tl1 t)))))))))) (hd1 (tl1 (tl1 (tl1 (tl1 (tl1 (tl1 (tl1 (tl1 (tl1 (tl1 t))))))))))) (hd1 (tl1 (tl1 (tl1 (tl1 (tl1 (tl1 (tl1 (tl1 (tl1 (tl1 (tl1 t)))))))))))) (hd1 (tl1 (tl1 (tl1 (tl1 (tl1 (tl1 (tl1 (tl1 (tl1 (tl1 (tl1 (tl1 t))))))))))))) (hd1 (tl1 (tl1 (tl1 (tl1 (tl1 (tl1 (tl1 (tl1 (tl1 (tl1 (tl1 (tl1 (tl1 t)))))))))))))) (hd1 (tl1 (tl1 (tl1 (tl1 (tl1 (tl1 (tl1 (tl1 (tl1 (tl1 (tl1 (tl1 (tl1 (tl1 t))))))))))))))) (hd1 (tl1 (tl1 (tl1 (tl1 (tl1 (tl1 (tl1 (tl1 (tl1 (tl1 (tl1 (tl1 (tl1 (tl1 (tl1 t)))))))))))))))) (hd1 (tl1 (tl1 (tl1 (tl1 (tl1 (tl1 (tl1 (tl1 (tl1 (tl1 (tl1 (tl1 (tl1 (tl1 (tl1 (tl1 t))))))))))))))))) (hd1 (tl1 (tl1 (tl1 (tl1 (tl1 (tl1 (tl1 (tl1 (tl1 (tl1 (tl1 (tl1 (tl1 (tl1 (tl1 (tl1 (tl1 t)))))))))))))))))) (hd1 (tl1 (tl1 (tl1 (tl1 (tl1 (tl1 (tl1 (tl1 (tl1 (tl1 (tl1 (tl1 (tl1 (tl1 (tl1 (tl1 (tl1 (tl1 t))))))))))))))))))) (hd1 (tl1 (tl1 (tl1 (tl1 (tl1 (tl1 (tl1 (tl1 (tl1 (tl1 (tl1 (tl1 (tl1 (tl1 (tl1 (tl1 (tl1 (tl1 (tl1 t)))))))))))))))))))) (hd1 (tl1 (tl1 (tl1 (tl1 (tl1 (tl1 (tl1 (tl1 (tl1 (tl1 (tl1 (tl1 (tl1 (tl1 (tl1 (tl1 (tl1 (tl1 (tl1 (tl1 t))))))))))))))))))))) (id1 (tl1 (tl1 (tl1 (tl1 (tl1 (tl1 (tl1 (tl1 (tl1 (tl1 (tl1 (tl1 (tl1 (tl1 (tl1 (tl1 (tl1 (tl1 (tl1 (tl1 (tl1 t))))))))))))))))))))))
theorem ep22_all {α0 α1 α2 α3 α4 α5 α6 α7 α8 α9 α10 α11 α12 α13 α14 α15 α16 α17 α18 α19 α20 α21 : Type} {P : α0 → α1 → α2 → α3 → α4 → α5 → α6 → α7 → α8 → α9 → α10 → α11 → α12 → α13 → α14 → α15 → α16 → α17 → α18 → α19 → α20 → α21 → Prop} (d : Nonempty (α0 × α1 × α2 × α3 × α4 × α5 × α6 × α7 × α8 × α9 × α10 × α11 × α12 × α13 × α14 × α15 × α16 × α17 × α18 × α19 × α20 × α21)) (h : ∀ R : α0 → α1 → α2 → α3 → α4 → α5 → α6 → α7 → α8 → α9 → α10 → α11 → α12 → α13 → α14 → α15 → α16 → α17 → α18 → α19 → α20 → α21 → Prop, R = P → R (hd1 (ep22 d P)) (hd1 (tl1 (ep22 d P))) (hd1 (tl1 (tl1 (ep22 d P)))) (hd1 (tl1 (tl1 (tl1 (ep22 d P))))) (hd1 (tl1 (tl1 (tl1 (tl1 (ep22 d P)))))) (hd1 (tl1 (tl1 (tl1 (tl1 (tl1 (ep22 d P))))))) (hd1 (tl1 (tl1 (tl1 (tl1 (tl1 (tl1 (ep22 d P)))))))) (hd1 (tl1 (tl1 (tl1 (tl1 (tl1 (tl1 (tl1 (ep22 d P))))))))) (hd1 (tl1 (tl1 (tl1 (tl1 (tl1 (tl1 (tl1 (tl1 (ep22 d P)))))))))) (hd1 (tl1 (tl1 (tl1 (tl1 (tl1 (tl1 (tl1 (tl1 (tl1 (ep22 d P))))))))))) (hd1 (tl1 (tl1 (tl1 (tl1 (tl1 (tl1 (tl1 (tl1 (tl1 (tl1 (ep22 d P)))))))))))) (hd1 (tl1 (tl1 (tl1 (tl1 (tl1 (tl1 (tl1 (tl1 (tl1 (tl1 (tl1 (ep22 d P))))))))))))) (hd1 (tl1 (tl1 (tl1 (tl1 (tl1 (tl1 (tl1 (tl1 (tl1 (tl1 (tl1 (tl1 (ep22 d P)))))))))))))) (hd1 (tl1 (tl1 (tl1 (tl1 (tl1 (tl1 (tl1 (tl1 (tl1 (tl1 (tl1 (tl1 (tl1 (ep22 d P))))))))))))))) (hd1 (tl1 (tl1 (tl1 (tl1 (tl1 (tl1 (tl1 (tl1 (tl1 (tl1 (tl1 (tl1 (tl1 (tl1 (ep22 d P)))))))))))))))) (hd1 (tl1 (tl1 (tl1 (tl1 (tl1 (tl1 (tl1 (tl1 (tl1 (tl1 (tl1 (tl1 (tl1 (tl1 (tl1 (ep22 d P))))))))))))))))) (hd1 (tl1 (tl1 (tl1 (tl1 (tl1 (tl1 (tl1 (tl1 (tl1 (tl1 (tl1 (tl1 (tl1 (tl1 (tl1 (tl1 (ep22 d P)))))))))))))))))) (hd1 (tl1 (tl1 (tl1 (tl1 (tl1 (tl1 (tl1 (tl1 (tl1 (tl1 (tl1 (tl1 (tl1 (tl1 (tl1 (tl1 (tl1 (ep22 d P))))))))))))))))))) (hd1 (tl1 (tl1 (tl1 (tl1 (tl1 (tl1 (tl1 (tl1 (tl1 (tl1 (tl1 (tl1 (tl1 (tl1 (tl1 (tl1 (tl1 (tl1 (ep22 d P)))))))))))))))))))) (hd1 (tl1 (tl1 (tl1 (tl1 (tl1 (tl1 (tl1 (tl1 (tl1 (tl1 (tl1 (tl1 (tl1 (tl1 (tl1 (tl1 (tl1 (tl1 (tl1 (ep22 d P))))))))))))))))))))) (hd1 (tl1 (tl1 (tl1 (tl1 (tl1 (tl1 (tl1 (tl1 (tl1 (tl1 (tl1 (tl1 (tl1 (tl1 (tl1 (tl1 (tl1 (tl1 (tl1 (tl1 (ep22 d P)))))))))))))))))))))) (id1 (tl1 (tl1 (tl1 (tl1 (tl1 (tl1 (tl1 (tl1 (tl1 (tl1 (tl1 (tl1 (tl1 (tl1 (tl1 (tl1 (tl1 (tl1 (tl1 (tl1 (tl1 (ep22 d P)))))))))))))))))))))))) (x0 : α0) (x1 : α1) (x2 : α2) (x3 : α3) (x4 : α4) (x5 : α5) (x6 : α6) (x7 : α7) (x8 : α8) (x9 : α9) (x10 : α10) (x11 : α11) (x12 : α12) (x13 : α13) (x14 : α14) (x15 : α15) (x16 : α16) (x17 : α17) (x18 : α18) (x19 : α19) (x20 : α20) (x21 : α21) : P x0 x1 x2 x3 x4 x5 x6 x7 x8 x9 x10 x11 x12 x13 x14 x15 x16 x17 x18 x19 x20 x21 :=
  Classical.byContradiction fun hx => (@Classical.epsilon_spec _ (fun t : α0 × α1 × α2 × α3 × α4 × α5 × α6 × α7 × α8 × α9 × α10 × α11 × α12 × α13 × α14 × α15 × α16 × α17 × α18 × α19 × α20 × α21 => ¬ P (hd1 t) (hd1 (tl1 t)) (hd1 (tl1 (tl1 t))) (hd1 (tl1 (tl1 (tl1 t)))) (hd1 (tl1 (tl1 (tl1 (tl1 t))))) (hd1 (tl1 (tl1 (tl1 (tl1 (tl1 t)))))) (hd1 (tl1 (tl1 (tl1 (tl1 (tl1 (tl1 t))))))) (hd1 (tl1 (tl1 (tl1 (tl1 (tl1 (tl1 (tl1 t)))))))) (hd1 (tl1 (tl1 (tl1 (tl1 (tl1 (tl1 (tl1 (tl1 t))))))))) (hd1 (tl1 (tl1 (tl1 (tl1 (tl1 (tl1 (tl1 (tl1 (tl1 t)))))))))) (hd1 (tl1 (tl1 (tl1 (tl1 (tl1 (tl1 (tl1 (tl1 (tl1 (tl1 t))))))))))) (hd1 (tl1 (tl1 (tl1 (tl1 (tl1 (tl1 (tl1 (tl1 (tl1 (tl1 (tl1 t)))))))))))) (hd1 (tl1 (tl1 (tl1 (tl1 (tl1 (tl1 (tl1 (tl1 (tl1 (tl1 (tl1 (tl1 t))))))))))))) (hd1 (tl1 (tl1 (tl1 (tl1 (tl1 (tl1 (tl1 (tl1 (tl1 (tl1 (tl1 (tl1 (tl1 t)))))))))))))) (hd1 (tl1 (tl1 (tl1 (tl1 (tl1 (tl1 (tl1 (tl1 (tl1 (tl1 (tl1 (tl1 (tl1 (tl1 t))))))))))))))) (hd1 (tl1 (tl1 (tl1 (tl1 (tl1 (tl1 (tl1 (tl1 (tl1 (tl1 (tl1 (tl1 (tl1 (tl1 (tl1 t)))))))))))))))) (hd1 (tl1 (tl1 (tl1 (tl1 (tl1 (tl1 (tl1 (tl1 (tl1 (tl1 (tl1 (tl1 (tl1 (tl1 (tl1 (tl1 t))))))))))))))))) (hd1 (tl1 (tl1 (tl1 (tl1 (tl1 (tl1 (tl1 (tl1 (tl1 (tl1 (tl1 (tl1 (tl1 (tl1 (tl1 (tl1 (tl1 t)))))))))))))))))) (hd1 (tl1 (tl1 (tl1 (tl1 (tl1 (tl1 (tl1 (tl1 (tl1 (tl1 (tl1 (tl1 (tl1 (tl1 (tl1 (tl1 (tl1 (tl1 t))))))))))))))))))) (hd1 (tl1 (tl1 (tl1 (tl1 (tl1 (tl1 (tl1 (tl1 (tl1 (tl1 (tl1 (tl1 (tl1 (tl1 (tl1 (tl1 (tl1 (tl1 (tl1 t)))))))))))))))))))) (hd1 (tl1 (tl1 (tl1 (tl1 (tl1 (tl1 (tl1 (tl1 (tl1 (tl1 (tl1 (tl1 (tl1 (tl1 (tl1 (tl1 (tl1 (tl1 (tl1 (tl1 t))))))))))))))))))))) (id1 (tl1 (tl1 (tl1 (tl1 (tl1 (tl1 (tl1 (tl1 (tl1 (tl1 (tl1 (tl1 (tl1 (tl1 (tl1 (tl1 (tl1 (tl1 (tl1 (tl1 (tl1 t))))))))))))))))))))))) ⟨(x0, x1, x2, x3, x4, x5, x6, x7, x8, x9, x10, x11, x12, x13, x14, x15, x16, x17, x18, x19, x20, x21), hx⟩) (h P rfl)
theorem ep3_one {α0 α1 α2 : Type} {P : α0 → α1 → α2 → Prop} (d : Nonempty (α0 × α1 × α2)) (h : P (hd1 (ep3 d P)) (hd1 (tl1 (ep3 d P))) (id1 (tl1 (tl1 (ep3 d P))))) : ∀ x0 x1 x2, P x0 x1 x2 := ep3_all d fun R e => e ▸ h
theorem ep7_one {α0 α1 α2 α3 α4 α5 α6 : Type} {P : α0 → α1 → α2 → α3 → α4 → α5 → α6 → Prop} (d : Nonempty (α0 × α1 × α2 × α3 × α4 × α5 × α6)) (h : P (hd1 (ep7 d P)) (hd1 (tl1 (ep7 d P))) (hd1 (tl1 (tl1 (ep7 d P)))) (hd1 (tl1 (tl1 (tl1 (ep7 d P))))) (hd1 (tl1 (tl1 (tl1 (tl1 (ep7 d P)))))) (hd1 (tl1 (tl1 (tl1 (tl1 (tl1 (ep7 d P))))))) (id1 (tl1 (tl1 (tl1 (tl1 (tl1 (tl1 (ep7 d P))))))))) : ∀ x0 x1 x2 x3 x4 x5 x6, P x0 x1 x2 x3 x4 x5 x6 := ep7_all d fun R e => e ▸ h
theorem ep19_one {α0 α1 α2 α3 α4 α5 α6 α7 α8 α9 α10 α11 α12 α13 α14 α15 α16 α17 α18 : Type} {P : α0 → α1 → α2 → α3 → α4 → α5 → α6 → α7 → α8 → α9 → α10 → α11 → α12 → α13 → α14 → α15 → α16 → α17 → α18 → Prop} (d : Nonempty (α0 × α1 × α2 × α3 × α4 × α5 × α6 × α7 × α8 × α9 × α10 × α11 × α12 × α13 × α14 × α15 × α16 × α17 × α18)) (h : P (hd1 (ep19 d P)) (hd1 (tl1 (ep19 d P))) (hd1 (tl1 (tl1 (ep19 d P)))) (hd1 (tl1 (tl1 (tl1 (ep19 d P))))) (hd1 (tl1 (tl1 (tl1 (tl1 (ep19 d P)))))) (hd1 (tl1 (tl1 (tl1 (tl1 (tl1 (ep19 d P))))))) (hd1 (tl1 (tl1 (tl1 (tl1 (tl1 (tl1 (ep19 d P)))))))) (hd1 (tl1 (tl1 (tl1 (tl1 (tl1 (tl1 (tl1 (ep19 d P))))))))) (hd1 (tl1 (tl1 (tl1 (tl1 (tl1 (tl1 (tl1 (tl1 (ep19 d P)))))))))) (hd1 (tl1 (tl1 (tl1 (tl1 (tl1 (tl1 (tl1 (tl1 (tl1 (ep19 d P))))))))))) (hd1 (tl1 (tl1 (tl1 (tl1 (tl1 (tl1 (tl1 (tl1 (tl1 (tl1 (ep19 d P)))))))))))) (hd1 (tl1 (tl1 (tl1 (tl1 (tl1 (tl1 (tl1 (tl1 (tl1 (tl1 (tl1 (ep19 d P))))))))))))) (hd1 (tl1 (tl1 (tl1 (tl1 (tl1 (tl1 (tl1 (tl1 (tl1 (tl1 (tl1 (tl1 (ep19 d P)))))))))))))) (hd1 (tl1 (tl1 (tl1 (tl1 (tl1 (tl1 (tl1 (tl1 (tl1 (tl1 (tl1 (tl1 (tl1 (ep19 d P))))))))))))))) (hd1 (tl1 (tl1 (tl1 (tl1 (tl1 (tl1 (tl1 (tl1 (tl1 (tl1 (tl1 (tl1 (tl1 (tl1 (ep19 d P)))))))))))))))) (hd1 (tl1 (tl1 (tl1 (tl1 (tl1 (tl1 (tl1 (tl1 (tl1 (tl1 (tl1 (tl1 (tl1 (tl1 (tl1 (ep19 d P))))))))))))))))) (hd1 (tl1 (tl1 (tl1 (tl1 (tl1 (tl1 (tl1 (tl1 (tl1 (tl1 (tl1 (tl1 (tl1 (tl1 (tl1 (tl1 (ep19 d P)))))))))))))))))) (hd1 (tl1 (tl1 (tl1 (tl1 (tl1 (tl1 (tl1 (tl1 (tl1 (tl1 (tl1 (tl1 (tl1 (tl1 (tl1 (tl1 (tl1 (ep19 d P))))))))))))))))))) (id1 (tl1 (tl1 (tl1 (tl1 (tl1 (tl1 (tl1 (tl1 (tl1 (tl1 (tl1 (tl1 (tl1 (tl1 (tl1 (tl1 (tl1 (tl1 (ep19 d P))))))))))))))))))))) : ∀ x0 x1 x2 x3 x4 x5 x6 x7 x8 x9 x10 x11 x12 x13 x14 x15 x16 x17 x18, P x0 x1 x2 x3 x4 x5 x6 x7 x8 x9 x10 x11 x12 x13 x14 x15 x16 x17 x18 := ep19_all d fun R e => e ▸ h
abbrev AmbT : Type := (ExcName → Option Value) × (Str → Option Value) × (Str → Option Value) × (Nat) × (Nat) × (Option (List Code)) × (Str) × (Scope) × (Addr) × (Value) × (List (Str × Addr)) × (List Env) × (Around) × (Heap) × (Heap) × (Addr) × (Str → Option Value) × (Shared) × (Value → Shared → Prop) × (Value → Shared → Prop) × (Heap) × (Addr) × (Heap)
noncomputable def am0 (t : AmbT) : ExcName → Option Value := t.1
noncomputable def am1 (t : AmbT) : Str → Option Value := t.2.1
noncomputable def am2 (t : AmbT) : Str → Option Value := t.2.2.1
noncomputable def am3 (t : AmbT) : Nat := t.2.2.2.1
noncomputable def am4 (t : AmbT) : Nat := t.2.2.2.2.1
noncomputable def am5 (t : AmbT) : Option (List Code) := t.2.2.2.2.2.1
noncomputable def am6 (t : AmbT) : Str := t.2.2.2.2.2.2.1
noncomputable def am7 (t : AmbT) : Scope := t.2.2.2.2.2.2.2.1
noncomputable def am8 (t : AmbT) : Addr := t.2.2.2.2.2.2.2.2.1
noncomputable def am9 (t : AmbT) : Value := t.2.2.2.2.2.2.2.2.2.1
noncomputable def am10 (t : AmbT) : List (Str × Addr) := t.2.2.2.2.2.2.2.2.2.2.1
noncomputable def am11 (t : AmbT) : List Env := t.2.2.2.2.2.2.2.2.2.2.2.1
noncomputable def am12 (t : AmbT) : Around := t.2.2.2.2.2.2.2.2.2.2.2.2.1
noncomputable def am13 (t : AmbT) : Heap := t.2.2.2.2.2.2.2.2.2.2.2.2.2.1
noncomputable def am14 (t : AmbT) : Heap := t.2.2.2.2.2.2.2.2.2.2.2.2.2.2.1
noncomputable def am15 (t : AmbT) : Addr := t.2.2.2.2.2.2.2.2.2.2.2.2.2.2.2.1
noncomputable def am16 (t : AmbT) : Str → Option Value := t.2.2.2.2.2.2.2.2.2.2.2.2.2.2.2.2.1
noncomputable def am17 (t : AmbT) : Shared := t.2.2.2.2.2.2.2.2.2.2.2.2.2.2.2.2.2.1
noncomputable def am18 (t : AmbT) : Value → Shared → Prop := t.2.2.2.2.2.2.2.2.2.2.2.2.2.2.2.2.2.2.1
noncomputable def am19 (t : AmbT) : Value → Shared → Prop := t.2.2.2.2.2.2.2.2.2.2.2.2.2.2.2.2.2.2.2.1
noncomputable def am20 (t : AmbT) : Heap := t.2.2.2.2.2.2.2.2.2.2.2.2.2.2.2.2.2.2.2.2.1
noncomputable def am21 (t : AmbT) : Addr := t.2.2.2.2.2.2.2.2.2.2.2.2.2.2.2.2.2.2.2.2.2.1
noncomputable def am22 (t : AmbT) : Heap := t.2.2.2.2.2.2.2.2.2.2.2.2.2.2.2.2.2.2.2.2.2.2
theorem ne_amb : Nonempty AmbT := ⟨(fun _ => none, fun _ => none, fun _ => none, 0, 0, none, Str.ofString "", { kind := .function, names := [], isGenerator := false, isCoroutine := false }, 0, .none, [], [], {}, {}, {}, 0, fun _ => none, {}, fun _ _ => True, fun _ _ => True, {}, 0, {})⟩
noncomputable def epA (P : (ExcName → Option Value) → (Str → Option Value) → (Str → Option Value) → (Nat) → (Nat) → (Option (List Code)) → (Str) → (Scope) → (Addr) → (Value) → (List (Str × Addr)) → (List Env) → (Around) → (Heap) → (Heap) → (Addr) → (Str → Option Value) → (Shared) → (Value → Shared → Prop) → (Value → Shared → Prop) → (Heap) → (Addr) → (Heap) → Prop) : AmbT := @Classical.epsilon _ ne_amb fun t => ¬ P (am0 t) (am1 t) (am2 t) (am3 t) (am4 t) (am5 t) (am6 t) (am7 t) (am8 t) (am9 t) (am10 t) (am11 t) (am12 t) (am13 t) (am14 t) (am15 t) (am16 t) (am17 t) (am18 t) (am19 t) (am20 t) (am21 t) (am22 t)
theorem amb_all {P : (ExcName → Option Value) → (Str → Option Value) → (Str → Option Value) → (Nat) → (Nat) → (Option (List Code)) → (Str) → (Scope) → (Addr) → (Value) → (List (Str × Addr)) → (List Env) → (Around) → (Heap) → (Heap) → (Addr) → (Str → Option Value) → (Shared) → (Value → Shared → Prop) → (Value → Shared → Prop) → (Heap) → (Addr) → (Heap) → Prop} (h : ∀ R : (ExcName → Option Value) → (Str → Option Value) → (Str → Option Value) → (Nat) → (Nat) → (Option (List Code)) → (Str) → (Scope) → (Addr) → (Value) → (List (Str × Addr)) → (List Env) → (Around) → (Heap) → (Heap) → (Addr) → (Str → Option Value) → (Shared) → (Value → Shared → Prop) → (Value → Shared → Prop) → (Heap) → (Addr) → (Heap) → Prop, R = P → R (am0 (epA P)) (am1 (epA P)) (am2 (epA P)) (am3 (epA P)) (am4 (epA P)) (am5 (epA P)) (am6 (epA P)) (am7 (epA P)) (am8 (epA P)) (am9 (epA P)) (am10 (epA P)) (am11 (epA P)) (am12 (epA P)) (am13 (epA P)) (am14 (epA P)) (am15 (epA P)) (am16 (epA P)) (am17 (epA P)) (am18 (epA P)) (am19 (epA P)) (am20 (epA P)) (am21 (epA P)) (am22 (epA P))) (mean : ExcName → Option Value) (mg : Str → Option Value) (mb : Str → Option Value) (dp : Nat) (un : Nat) (gd : Option (List Code)) (cn : Str) (cs : Scope) (a : Addr) (ccd : Value) (cl : List (Str × Addr)) (outer : List Env) (A₀ : Around) (base : Heap) (h₀ : Heap) (L : Addr) (m : Str → Option Value) (s : Shared) (Q : Value → Shared → Prop) (E : Value → Shared → Prop) (g' : Heap) (L' : Addr) (h' : Heap) : P mean mg mb dp un gd cn cs a ccd cl outer A₀ base h₀ L m s Q E g' L' h' :=
  Classical.byContradiction fun hx => (@Classical.epsilon_spec _ (fun t : AmbT => ¬ P (am0 t) (am1 t) (am2 t) (am3 t) (am4 t) (am5 t) (am6 t) (am7 t) (am8 t) (am9 t) (am10 t) (am11 t) (am12 t) (am13 t) (am14 t) (am15 t) (am16 t) (am17 t) (am18 t) (am19 t) (am20 t) (am21 t) (am22 t)) ⟨(mean, mg, mb, dp, un, gd, cn, cs, a, ccd, cl, outer, A₀, base, h₀, L, m, s, Q, E, g', L', h'), hx⟩) (h P rfl)
theorem amb_one {P : (ExcName → Option Value) → (Str → Option Value) → (Str → Option Value) → (Nat) → (Nat) → (Option (List Code)) → (Str) → (Scope) → (Addr) → (Value) → (List (Str × Addr)) → (List Env) → (Around) → (Heap) → (Heap) → (Addr) → (Str → Option Value) → (Shared) → (Value → Shared → Prop) → (Value → Shared → Prop) → (Heap) → (Addr) → (Heap) → Prop} (h : P (am0 (epA P)) (am1 (epA P)) (am2 (epA P)) (am3 (epA P)) (am4 (epA P)) (am5 (epA P)) (am6 (epA P)) (am7 (epA P)) (am8 (epA P)) (am9 (epA P)) (am10 (epA P)) (am11 (epA P)) (am12 (epA P)) (am13 (epA P)) (am14 (epA P)) (am15 (epA P)) (am16 (epA P)) (am17 (epA P)) (am18 (epA P)) (am19 (epA P)) (am20 (epA P)) (am21 (epA P)) (am22 (epA P))) : ∀ mean mg mb dp un gd cn cs a ccd cl outer A₀ base h₀ L m s Q E g' L' h', P mean mg mb dp un gd cn cs a ccd cl outer A₀ base h₀ L m s Q E g' L' h' := amb_all fun R e => e ▸ h

-- P0
-- pure functions over signs
def isSp (x : Str) : Bool := !(Builtin.Str.occurrences (Str.ofString " \t\n\x0d") x 0 (Str.ofString " \t\n\x0d").length 1).isEmpty && x != Str.ofString ""
def isLow (x : Str) : Bool := !decide (x.cps.toList < (Str.ofString "a").cps.toList) && !decide ((Str.ofString "z").cps.toList < x.cps.toList)
def isStart (x : Str) : Bool := isLow x || (!decide (x.cps.toList < (Str.ofString "A").cps.toList) && !decide ((Str.ofString "Z").cps.toList < x.cps.toList)) || x == Str.ofString "_" || x == Str.ofString ":"
def isChar (x : Str) : Bool := isStart x || (!decide (x.cps.toList < (Str.ofString "0").cps.toList) && !decide ((Str.ofString "9").cps.toList < x.cps.toList)) || x == Str.ofString "-" || x == Str.ofString "."
def isFig (x : Str) : Bool := !(Builtin.Str.occurrences (Str.ofString "0123456789") x 0 (Str.ofString "0123456789").length 1).isEmpty

/-- the sign at the head of what is left -/
def sgn : List Nat → Str
  | [] => ⟨#[]⟩
  | c :: _ => ⟨#[c]⟩
/-- at n the text T goes on as r -/
structure Sf (T : Str) (n : Int) (r : List Nat) : Prop where
  nn : 0 ≤ n
  dr : T.cps.toList.drop n.toNat = r
  sz : T.length ≤ 1000
  lo : ∀ c ∈ T.cps.toList, c < 128
theorem Sf.on {T : Str} {n : Int} {r : List Nat} (h : Sf T n r) (k : Nat) : Sf T (n + k) (r.drop k) := by
  refine ⟨by have := h.nn; omega, ?_, h.sz, h.lo⟩
  have e : (n + (k : Int)).toNat = n.toNat + k := by have := h.nn; omega
  rw [e, ← h.dr, List.drop_drop]
theorem Sf.tail {T : Str} {n : Int} {c : Nat} {r : List Nat} (h : Sf T n (c :: r)) : Sf T (n + 1) r := h.on 1
theorem Sf.head {T : Str} {n : Int} {c : Nat} {r : List Nat} (h : Sf T n (c :: r)) : c < 128 :=
  h.lo c (List.mem_of_mem_drop (h.dr ▸ List.mem_cons_self))
theorem Sf.size {T : Str} {n : Int} {r : List Nat} (h : Sf T n r) : r.length = T.length - n.toNat := by
  have e := congrArg List.length h.dr
  rw [List.length_drop, Array.length_toList] at e
  exact e.symm
theorem Sf.len {T : Str} {n : Int} {r : List Nat} (h : Sf T n r) : (n < (T.length : Int)) ↔ r ≠ [] := by
  have e := h.size
  have hn := h.nn
  cases r with
  | nil => simp at e; simp; omega
  | cons c r => simp at e; simp; omega
theorem Sf.item {T : Str} {n : Int} {c : Nat} {r : List Nat} (h : Sf T n (c :: r)) : Txt.item T n = ⟨#[c]⟩ := by
  have hn := h.nn
  have hl : n < (T.length : Int) := h.len.mpr (by simp)
  have e : T.cps.toList[n.toNat]? = some c := by
    have := congrArg (fun l => l[0]?) h.dr
    simpa using this
  have e2 : T.cps[n.toNat]? = some c := by simpa using e
  have hs : seqIndex? n T.length = some n.toNat := by
    unfold seqIndex?
    have h1 : ¬ n < 0 := by omega
    simp only [h1, if_false]
    rw [if_pos (by simp; omega)]
  show Str.mk #[((seqIndex? n T.length).bind (T.cps[·]?)).getD 0] = _
  rw [hs]
  show Str.mk #[(T.cps[n.toNat]?).getD 0] = _
  rw [e2]
  rfl
theorem Sf.slice {T : Str} {n : Int} {r : List Nat} (h : Sf T n r) {k : Nat} (hk : k ≤ r.length) (hn : r = [] → n ≤ T.length) : Txt.slice T (some n) (some (n + k)) = ⟨(r.take k).toArray⟩ := by
  have h1 := h.nn
  have h2 := h.size
  have hc : T.length = T.cps.toList.length := by rw [Array.length_toList]; rfl
  have h3 : n ≤ T.length := by
    cases r with
    | nil => exact hn rfl
    | cons c r => have := h.len.mpr (by simp); omega
  have e : Txt.slice T (some n) (some (n + k)) = ⟨((T.cps.toList.drop n.toNat).take (n + k - n).toNat).toArray⟩ := PySem.StrLaws.sliceText_plain (x := T) (i := n) (j := n + k) ⟨h1, by omega, by omega⟩
  rw [e, h.dr]
  have : (n + (k : Int) - n).toNat = k := by omega
  rw [this]
theorem Sf.sgn {T : Str} {n : Int} {r : List Nat} (h : Sf T n r) (hl : n < (T.length : Int)) : Txt.item T n = sgn r := by
  cases r with
  | nil => exact absurd rfl (h.len.mp hl)
  | cons c r => exact h.item
theorem Sf.sgn0 {T : Str} {n : Int} {r : List Nat} (h : Sf T n r) (hl : ¬ n < (T.length : Int)) : Str.ofString "" = Mine.sgn r := by
  have : r = [] := by
    cases r with
    | nil => rfl
    | cons c r => exact absurd (h.len.mpr (by simp)) hl
  subst this
  rfl
def spN (r : List Nat) : Nat := (r.takeWhile fun c => isSp ⟨#[c]⟩).length
def figN (r : List Nat) : Nat := (r.takeWhile fun c => isFig ⟨#[c]⟩).length
def nmC (r : List Nat) : Nat := (r.takeWhile fun c => ((⟨#[c]⟩ : Str) != Str.ofString ":") && isChar ⟨#[c]⟩).length
def nmN (r : List Nat) : Nat := match r with
  | [] => 0
  | c :: _ => if ((⟨#[c]⟩ : Str) == Str.ofString ":") || !isStart ⟨#[c]⟩ then 0 else nmC r
theorem isFig_t {x : Str} (h : isFig x = true) : (Builtin.Str.occurrences (Str.ofString "0123456789") x 0 (Str.ofString "0123456789").length 1).isEmpty = false := by
  unfold isFig at h; simpa using h
theorem isFig_f {x : Str} (h : isFig x = false) : (Builtin.Str.occurrences (Str.ofString "0123456789") x 0 (Str.ofString "0123456789").length 1).isEmpty = true := by
  unfold isFig at h; simpa using h
theorem sgn_ne (c : Nat) (r : List Nat) : (sgn (c :: r) != Str.ofString "") = true := by
  rw [bne_iff_ne]; intro h; have := congrArg (fun s => s.cps.size) h; simp [sgn, Str.ofString, cpsOfBytes] at this
theorem sgn_nil : (sgn [] != Str.ofString "") = false := by decide
def txt (l : List Nat) : Str := ⟨l.toArray⟩
theorem spN_cons (c : Nat) (r : List Nat) : spN (c :: r) = if isSp ⟨#[c]⟩ then spN r + 1 else 0 := by
  unfold spN; rw [List.takeWhile_cons]; split <;> rfl
theorem figN_cons (c : Nat) (r : List Nat) : figN (c :: r) = if isFig ⟨#[c]⟩ then figN r + 1 else 0 := by
  unfold figN; rw [List.takeWhile_cons]; split <;> rfl
theorem nmC_cons (c : Nat) (r : List Nat) : nmC (c :: r) = if (((⟨#[c]⟩ : Str) != Str.ofString ":") && isChar ⟨#[c]⟩) then nmC r + 1 else 0 := by
  unfold nmC; rw [List.takeWhile_cons]; split <;> rfl

-- B0
theorem hk11 : True := by
  k_with_none
  exact True.intro
theorem fin {h₀ : Heap} {L : Addr} {m : Str → Option Value} {s : Shared} {Q : Value → Shared → Prop} {v v' : Value} {news news' : List (Addr × Obj)} {h' : Heap} {tk : Nat}
    (hret : Ret h₀ L m s Q v news) (F : Fr h₀ L h' m) (N : News h₀ L h' news') (hs : ∀ p ∈ news, p ∈ news') (e : v' = v) : Q v' { s with heap := h', toks := tk } := e ▸ hret h' tk F (fun p hp => N p (hs p hp))
theorem finS {h₀ : Heap} {L : Addr} {m : Str → Option Value} {s : Shared} {Q : Value → Shared → Prop} {x y : Str} {t : Tok} {news news' : List (Addr × Obj)} {h' : Heap} {tk : Nat}
    (hret : ∀ t, Ret h₀ L m s Q (.str x t) news) (F : Fr h₀ L h' m) (N : News h₀ L h' news') (hs : ∀ p ∈ news, p ∈ news') (e : y = x) : Q (.str y t) { s with heap := h', toks := tk } := e ▸ hret t h' tk F (fun p hp => N p (hs p hp))
theorem same {news : List (Addr × Obj)} : ∀ p ∈ news, p ∈ news := fun _ h => h

theorem drop1 {h₀ h : Heap} {L : Addr} {p : Addr × Obj} {news : List (Addr × Obj)} (N : News h₀ L h (p :: news)) : News h₀ L h news := fun q hq => N q (List.mem_cons_of_mem _ hq)
theorem drop2 {h₀ h : Heap} {L : Addr} {p p' : Addr × Obj} {news : List (Addr × Obj)} (N : News h₀ L h (p :: p' :: news)) : News h₀ L h news := drop1 (drop1 N)
theorem use {w : World} {d u : Nat} {f : Addr} {vs : List Value} {news : List (Addr × Obj)} {post epost : (Value → List (Addr × Obj) → Prop) → Prop}
    {mean : ExcName → Option Value} {mg mb : Str → Option Value} {dp un : Nat} {gd : Option (List Code)} {cn : Str} {cs : Scope} {a : Addr} {ccd : Value} {cl : List (Str × Addr)} {outer : List Env} {A₀ : Around} {base h₀ : Heap} {L : Addr} {m : Str → Option Value} {s : Shared} {Q E : Value → Shared → Prop}
    (C : Con w d u f vs news post epost) (B : Below A₀ base outer h₀) (F : Fr h₀ L s.heap m) (X : (KV w.params).In h₀) (N : News h₀ L s.heap news) (T : Top VV (looseW VV []) mean mg mb h₀) (hk : cs.kind = .function) (hdp : dp + d < recursionLimit) (hun : un + u < cLine)
    (hp : post (Ret h₀ L m s Q)) (he : epost (Ret h₀ L m s E)) :
    wpAny (model PySem.Challenge.pw_xw0211_01 w) (ktrTop dp un gd cn cs L a ccd cl outer) (call (.ref f) vs) Q E s := C mean mg mb dp un gd cn cs a ccd cl outer A₀ base h₀ L m s Q E B F X N T hk hdp hun hp he

theorem useU {w : World} {d u : Nat} {f : Addr} {vs : List Value} {news : List (Addr × Obj)} {post : (Value → List (Addr × Obj) → Prop) → Prop}
    {mean : ExcName → Option Value} {mg mb : Str → Option Value} {dp un : Nat} {gd : Option (List Code)} {cn : Str} {cs : Scope} {a : Addr} {ccd : Value} {cl : List (Str × Addr)} {outer : List Env} {A₀ : Around} {base h₀ : Heap} {L : Addr} {m : Str → Option Value} {s : Shared} {Q E : Value → Shared → Prop}
    (B : Below A₀ base outer h₀ := by k_asm) (F : Fr h₀ L s.heap m := by k_asm) (X : (KV w.params).In h₀ := by k_asm) (N : News h₀ L s.heap news := by first | k_asm | exact drop1 (by k_asm) | exact drop2 (by k_asm)) (T : Top VV (looseW VV []) mean mg mb h₀ := by k_asm) (hk : cs.kind = .function := by first | exact rfl | assumption) (hdp : dp + d < recursionLimit := by ktr_room) (hun : un + u < cLine := by ktr_units)
    (C : Con w d u f vs news post fun _ => True) (hp : post (Ret h₀ L m s Q)) :
    wpAny (model PySem.Challenge.pw_xw0211_01 w) (ktrTop dp un gd cn cs L a ccd cl outer) (call (.ref f) vs) Q E s := use C B F X N T hk hdp hun hp True.intro

theorem is_space_c (w : World) (x : Str) (t : Tok) (news : List (Addr × Obj)) (b : Bool) (hb : isSp x = b) : Con w 1 8 52 [.str x t] news (fun R => R (.bool b) news) (fun _ => True) := by
  subst hb
  (unfold Con; intro mean mg mb dp un gd cn cs a ccd cl outer A₀ base h₀ L m s Q E B F X N T hk hd hu hret hex)
  (refine wpAny_call ?_; k_dflt (refine' code_def ?k1 ?k2 ?k3 ?k4 ?k5 ?kA ?kF ?kK ?k6 ?k7 ?k8 ?k9 ?kB ?_ ?c2 ?c3 ?c4 ?c5; (case kA => exact rfl); (case kF => exact rfl); (case kK => assumption); (case k1 => k_asm); (case k2 => k_asm); (case k3 => k_asm); (case k4 => first | k_asm | exact drop1 (by k_asm) | exact drop2 (by k_asm)); (case k5 => k_asm); (case k6 => k_is); (case k7 => k_is); (case k8 => ktr_room); (case k9 => first | exact BindsTo.of_eq rfl | exact binds_K (by k_in) rfl (by k_is) rfl rfl rfl); (case c5 => decide); (case kB => exact locs rfl); (case c2 => exact rfl); (case c3 => exact rfl); (case c4 => exact rfl); k_whole; intro g' L' h' FG' F' N' B' X' T'; (try dsimp only); (try k_lift B'); (try k_fold)))
  k_steps
  all_goals (refine fin hret (by k_asm) (by k_asm) same ?_)
  all_goals (unfold isSp; simp_all)
theorem hk7 : True := by
  k_with "mine call ref" => ((k_here; (k_dflt (show wpAny _ _ (call (Value.ref 52) _) _ _ _)); k_dflt (refine' useU (C := is_space_c _ _ _ _ _ (by first | assumption | exact rfl)) (hp := ?_)); intro h'_q tk'_q F'_q N'_q))
  exact True.intro
theorem is_small_letter_c (w : World) (x : Str) (t : Tok) (news : List (Addr × Obj)) : Con w 1 8 59 [.str x t] news (fun R => R (.bool (isLow x)) news) (fun _ => True) := by
  (unfold Con; intro mean mg mb dp un gd cn cs a ccd cl outer A₀ base h₀ L m s Q E B F X N T hk hd hu hret hex)
  (refine wpAny_call ?_; k_dflt (refine' code_def ?k1 ?k2 ?k3 ?k4 ?k5 ?kA ?kF ?kK ?k6 ?k7 ?k8 ?k9 ?kB ?_ ?c2 ?c3 ?c4 ?c5; (case kA => exact rfl); (case kF => exact rfl); (case kK => assumption); (case k1 => k_asm); (case k2 => k_asm); (case k3 => k_asm); (case k4 => first | k_asm | exact drop1 (by k_asm) | exact drop2 (by k_asm)); (case k5 => k_asm); (case k6 => k_is); (case k7 => k_is); (case k8 => ktr_room); (case k9 => first | exact BindsTo.of_eq rfl | exact binds_K (by k_in) rfl (by k_is) rfl rfl rfl); (case c5 => decide); (case kB => exact locs rfl); (case c2 => exact rfl); (case c3 => exact rfl); (case c4 => exact rfl); k_whole; intro g' L' h' FG' F' N' B' X' T'; (try dsimp only); (try k_lift B'); (try k_fold)))
  k_steps
  all_goals (refine fin hret (by k_asm) (by k_asm) same ?_)
  all_goals (unfold isLow; simp_all)
theorem hk8 : True := by
  k_with "mine call ref" => ((k_here; (k_dflt (show wpAny _ _ (call (Value.ref 59) _) _ _ _)); k_dflt (refine' useU (C := is_small_letter_c _ _ _ _) (hp := ?_)); intro h'_q tk'_q F'_q N'_q))
  exact True.intro
theorem is_name_start_c (w : World) (c : Nat) (t : Tok) (news : List (Addr × Obj)) (b : Bool) (hc : c < 128) (hb : isStart ⟨#[c]⟩ = b) : Con w 2 16 66 [.str ⟨#[c]⟩ t] news (fun R => R (.bool b) news) (fun _ => True) := by
  subst hb
  (unfold Con; intro mean mg mb dp un gd cn cs a ccd cl outer A₀ base h₀ L m s Q E B F X N T hk hd hu hret hex)
  (refine wpAny_call ?_; k_dflt (refine' code_def ?k1 ?k2 ?k3 ?k4 ?k5 ?kA ?kF ?kK ?k6 ?k7 ?k8 ?k9 ?kB ?_ ?c2 ?c3 ?c4 ?c5; (case kA => exact rfl); (case kF => exact rfl); (case kK => assumption); (case k1 => k_asm); (case k2 => k_asm); (case k3 => k_asm); (case k4 => first | k_asm | exact drop1 (by k_asm) | exact drop2 (by k_asm)); (case k5 => k_asm); (case k6 => k_is); (case k7 => k_is); (case k8 => ktr_room); (case k9 => first | exact BindsTo.of_eq rfl | exact binds_K (by k_in) rfl (by k_is) rfl rfl rfl); (case c5 => decide); (case kB => exact locs rfl); (case c2 => exact rfl); (case c3 => exact rfl); (case c4 => exact rfl); k_whole; intro g' L' h' FG' F' N' B' X' T'; (try dsimp only); (try k_lift B'); (try k_fold)))
  k_steps
  all_goals (refine fin hret (by k_asm) (by k_asm) same ?_)
  all_goals (refine congrArg Value.bool ?_; unfold isStart; grind)
theorem hk9 : True := by
  k_with "mine call ref" => ((k_here; (k_dflt (show wpAny _ _ (call (Value.ref 66) _) _ _ _)); k_dflt (refine' useU (C := is_name_start_c _ _ _ _ _ (by omega) (by first | assumption | exact rfl)) (hp := ?_)); intro h'_q tk'_q F'_q N'_q))
  exact True.intro
theorem is_name_char_c (w : World) (c : Nat) (t : Tok) (news : List (Addr × Obj)) (b : Bool) (hc : c < 128) (hb : isChar ⟨#[c]⟩ = b) : Con w 3 24 73 [.str ⟨#[c]⟩ t] news (fun R => R (.bool b) news) (fun _ => True) := by
  subst hb
  (unfold Con; intro mean mg mb dp un gd cn cs a ccd cl outer A₀ base h₀ L m s Q E B F X N T hk hd hu hret hex)
  (refine wpAny_call ?_; k_dflt (refine' code_def ?k1 ?k2 ?k3 ?k4 ?k5 ?kA ?kF ?kK ?k6 ?k7 ?k8 ?k9 ?kB ?_ ?c2 ?c3 ?c4 ?c5; (case kA => exact rfl); (case kF => exact rfl); (case kK => assumption); (case k1 => k_asm); (case k2 => k_asm); (case k3 => k_asm); (case k4 => first | k_asm | exact drop1 (by k_asm) | exact drop2 (by k_asm)); (case k5 => k_asm); (case k6 => k_is); (case k7 => k_is); (case k8 => ktr_room); (case k9 => first | exact BindsTo.of_eq rfl | exact binds_K (by k_in) rfl (by k_is) rfl rfl rfl); (case c5 => decide); (case kB => exact locs rfl); (case c2 => exact rfl); (case c3 => exact rfl); (case c4 => exact rfl); k_whole; intro g' L' h' FG' F' N' B' X' T'; (try dsimp only); (try k_lift B'); (try k_fold)))
  k_steps
  all_goals (refine fin hret (by k_asm) (by k_asm) same ?_)
  all_goals (refine congrArg Value.bool ?_; unfold isChar; grind)
theorem hk10 : True := by
  k_with "mine call ref" => ((k_here; (k_dflt (show wpAny _ _ (call (Value.ref 73) _) _ _ _)); k_dflt (refine' useU (C := is_name_char_c _ _ _ _ _ (by omega) (by first | assumption | exact rfl)) (hp := ?_)); intro h'_q tk'_q F'_q N'_q))
  exact True.intro

-- R0
section
variable {prog : Program} {w : World} {A : Around} {E : Value → Shared → Prop} {s : Shared} {h₀ : Heap} {L : Addr} {m : Str → Option Value} {news : List (Addr × Obj)} {K : Frag} {Q : Value → Shared → Prop}
theorem in_tup_K {t : Addr} {items : List Value} {n : Nat} {ys : List Str} {x : Str} {u : Tok} (X : K.In h₀) (F : Fr h₀ L s.heap m) (ho : K.lookup t = some ⟨.type "tuple", none, .seq items.toArray n, #[]⟩) (hi : StrsAre items ys) (h : Q (.bool (ys.any (· == x))) s) :
    wpAny (model prog w) A (compareOp .In (.str x u) (.ref t)) Q E s := in_tuple_strs ⟨_, F.keep _ _ (X _ _ ho), rfl, n, rfl⟩ hi h
theorem notin_tup_K {t : Addr} {items : List Value} {n : Nat} {ys : List Str} {x : Str} {u : Tok} (X : K.In h₀) (F : Fr h₀ L s.heap m) (ho : K.lookup t = some ⟨.type "tuple", none, .seq items.toArray n, #[]⟩) (hi : StrsAre items ys) (h : Q (.bool (!(ys.any (· == x)))) s) :
    wpAny (model prog w) A (compareOp .NotIn (.str x u) (.ref t)) Q E s := notin_tuple_strs ⟨_, F.keep _ _ (X _ _ ho), rfl, n, rfl⟩ hi h
theorem eq_lens_K {a b : Addr} {us ws : Array Value} {n n2 : Nat} (N : News h₀ L s.heap news) (ha : (a, listOf us n) ∈ news) (hb : (b, listOf ws n2) ∈ news) (hsz : (us.size != ws.size) = true) (hu : A.units < cLine) (h : Q (.bool false) s) :
    wpAny (model prog w) A (compareOp .Eq (.ref a) (.ref b)) Q E s := P.eq_list_lengths (N _ ha).1 (N _ hb).1 hsz hu h
theorem eq_nil_K {a b : Addr} {n n2 : Nat} (N : News h₀ L s.heap news) (ha : (a, listOf #[] n) ∈ news) (hb : (b, listOf #[] n2) ∈ news) (hu : A.units < cLine) (h : Q (.bool true) s) :
    wpAny (model prog w) A (compareOp .Eq (.ref a) (.ref b)) Q E s := P.eq_list (e := fun _ => true) (N _ ha).1 (N _ hb).1 rfl (fun j h1 _ => absurd h1 (Nat.not_lt_zero _)) hu h
theorem last_K {value slice : PySem.Expr} {a : Addr} {us : Array Value} {n : Nat} {x : Value} {u : Tok} (N : News h₀ L s.heap news) (ha : (a, listOf (us.push x) n) ∈ news) (hz : us.size ≤ 100) (h : Q x s)
    (hs : subscripted slice false (.ref a) (.int (-1) u) = operate [.ref a, .int (-1) u] (getItem (.ref a) (.int (-1) u)) := by with_unfolding_all rfl) (hg : ∀ r, letTemporaryGo value (.ref a) r = pure () := by intro _; with_unfolding_all rfl) :
    wpAny (model prog w) A (subscriptTail value slice (.ref a) (.int (-1) u)) Q E s := by
  have e : us.push x = (us.toList ++ [x]).toArray := by apply Array.toList_inj.mp; rw [Array.toList_push]
  have hl : (us.toList ++ [x]).length = us.size + 1 := by rw [List.length_append]; cases us; rfl
  refine kim_back (l := us.toList ++ [x]) N ha rfl (by rw [e]) (by decide) (by rw [hl]; omega) (by decide) ?_ h hs hg
  have : ((-1 : Int) + ((us.toList ++ [x]).length : Int)).toNat = us.size := by rw [hl]; omega
  rw [this]
  have hz : us.size = us.toList.length := by cases us; rfl
  rw [hz, List.getElem?_append_right (Nat.le_refl _), Nat.sub_self]
  rfl
end

-- X0
/-- the exception's own dict -/
abbrev msgO (h1 : Int) (k1 tm : Tok) (msg : Str) : Obj := dictOf [⟨h1, .str (Str.ofString "message") k1, .str msg tm⟩] 1
/-- a fault with its message flies over the frames l: the ground g stands up to the frames' slots, the ledger rc stands -/
structure Fly (base g : Heap) (rc : List (Addr × Obj)) (l : List Env) (e : Addr) (msg : Str) (h : Heap) : Prop where
  up : ∀ b o, g.get? b = some o → ∃ sl, h.get? b = some { o with slots := sl }
  eq : ∀ b o, g.get? b = some o → b ∉ l.filterMap (·.frame) → h.get? b = some o
  led : ∀ p ∈ rc, h.get? p.1 = some p.2 ∧ g.get? p.1 = none ∧ p.1 ∉ l.filterMap (·.frame)
  ff : h.FunFrames base l
  tr : ∃ oe vs T oT ts dm h1 k1 tm, h.get? e = some oe ∧ oe.cls = .ref 103 ∧ oe.dict = some dm ∧ oe.data = .fields vs ∧ vs[1]? = some (.ref T) ∧ T ≠ e ∧ h.get? T = some oT ∧ oT.data = .fields ts ∧ ts[3]? = some .none ∧ h.get? dm = some (msgO h1 k1 tm msg) ∧
    g.get? e = none ∧ g.get? T = none ∧ g.get? dm = none ∧ dm ∉ l.filterMap (·.frame) ∧ (∀ p ∈ rc, p.1 ≠ e ∧ p.1 ≠ T) 

/-- what the caller is handed where a fault comes out -/
abbrev RetE (base h₀ : Heap) (L : Addr) (m : Str → Option Value) (l : List Env) (s : Shared) (E : Value → Shared → Prop) (msg : Str) (rest : List (Addr × Obj)) : Prop :=
  ∀ (e : Addr) (h' : Heap) (tk' : Nat), Fly base h₀ rest l e msg h' → h'.Ns L m → E (.ref e) { s with heap := h', toks := tk' }

/-- a contract of a def that may raise a fault -/
abbrev ConE (w : World) (d u : Nat) (f : Addr) (vs : List Value) (news : List (Addr × Obj)) (post : (Value → List (Addr × Obj) → Prop) → Prop) (epost : (Str → List (Addr × Obj) → Prop) → Prop) : Prop :=
  ∀ (mean : ExcName → Option Value) (mg mb : Str → Option Value) (dp un : Nat) (gd : Option (List Code)) (cn : Str) (cs : Scope) (a : Addr) (ccd : Value) (cl : List (Str × Addr)) (outer : List Env) (A₀ : Around) (base h₀ : Heap) (L : Addr) (m : Str → Option Value) (s : Shared) (Q E : Value → Shared → Prop),
    Below A₀ base outer h₀ → Fr h₀ L s.heap m → (KV w.params).In h₀ → News h₀ L s.heap news → Top VV (looseW VV []) mean mg mb h₀ → cs.kind = .function → dp + d < recursionLimit → un + u < cLine →
    (post (Ret h₀ L m s Q)) → (epost (RetE base h₀ L m (envX cn cs L a ccd cl :: outer) s E)) →
      wpAny (model PySem.Challenge.pw_xw0211_01 w) (ktrTop dp un gd cn cs L a ccd cl outer) (call (.ref f) vs) Q E s
theorem useE {w : World} {d u : Nat} {f : Addr} {vs : List Value} {news : List (Addr × Obj)} {post : (Value → List (Addr × Obj) → Prop) → Prop} {epost : (Str → List (Addr × Obj) → Prop) → Prop}
    {mean : ExcName → Option Value} {mg mb : Str → Option Value} {dp un : Nat} {gd : Option (List Code)} {cn : Str} {cs : Scope} {a : Addr} {ccd : Value} {cl : List (Str × Addr)} {outer : List Env} {A₀ : Around} {base h₀ : Heap} {L : Addr} {m : Str → Option Value} {s : Shared} {Q E : Value → Shared → Prop}
    (C : ConE w d u f vs news post epost) (B : Below A₀ base outer h₀) (F : Fr h₀ L s.heap m) (X : (KV w.params).In h₀) (N : News h₀ L s.heap news) (T : Top VV (looseW VV []) mean mg mb h₀) (hk : cs.kind = .function) (hdp : dp + d < recursionLimit) (hun : un + u < cLine)
    (hp : post (Ret h₀ L m s Q)) (he : epost (RetE base h₀ L m (envX cn cs L a ccd cl :: outer) s E)) :
    wpAny (model PySem.Challenge.pw_xw0211_01 w) (ktrTop dp un gd cn cs L a ccd cl outer) (call (.ref f) vs) Q E s := C mean mg mb dp un gd cn cs a ccd cl outer A₀ base h₀ L m s Q E B F X N T hk hdp hun hp he

theorem useEA {w : World} {d u : Nat} {f : Addr} {vs : List Value} {news : List (Addr × Obj)} {post : (Value → List (Addr × Obj) → Prop) → Prop} {epost : (Str → List (Addr × Obj) → Prop) → Prop}
    {mean : ExcName → Option Value} {mg mb : Str → Option Value} {dp un : Nat} {gd : Option (List Code)} {cn : Str} {cs : Scope} {a : Addr} {ccd : Value} {cl : List (Str × Addr)} {outer : List Env} {A₀ : Around} {base h₀ : Heap} {L : Addr} {m : Str → Option Value} {s : Shared} {Q E : Value → Shared → Prop}
    (B : Below A₀ base outer h₀ := by k_asm) (F : Fr h₀ L s.heap m := by k_asm) (X : (KV w.params).In h₀ := by k_asm) (N : News h₀ L s.heap news := by first | k_asm | exact drop1 (by k_asm) | exact drop2 (by k_asm)) (T : Top VV (looseW VV []) mean mg mb h₀ := by k_asm) (hk : cs.kind = .function := by first | exact rfl | assumption) (hdp : dp + d < recursionLimit := by ktr_room) (hun : un + u < cLine := by ktr_units)
    (C : ConE w d u f vs news post epost) (hp : post (Ret h₀ L m s Q)) (he : epost (RetE base h₀ L m (envX cn cs L a ccd cl :: outer) s E)) :
    wpAny (model PySem.Challenge.pw_xw0211_01 w) (ktrTop dp un gd cn cs L a ccd cl outer) (call (.ref f) vs) Q E s := useE C B F X N T hk hdp hun hp he
structure Ek where
  h1 : Int
  k1 : Tok
  tm : Tok
  e : Addr
  dm : Addr
  t : Addr
  vs : Array Value
abbrev excO (y : Ek) : Obj := { cls := .ref 103, dict := some y.dm, data := .fields (#[.ref y.t, .none, .none, .none, .bool false, .none]) }

def RaisF (K : Frag) (E : Value → Shared → Prop) (v : Value) (s₁ : Shared) : Prop :=
  ∃ y : Ek, v = .ref y.e ∧ s₁.heap.get? y.e = some (excO y) ∧ K.In s₁.heap ∧ E (.ref y.e) s₁
theorem raisF {K : Frag} {h₀ : Heap} {L : Addr} {m : Str → Option Value} {E : Value → Shared → Prop} {y : Ek} {s₁ : Shared} {news : List (Addr × Obj)} (X : K.In h₀) (F : Fr h₀ L s₁.heap m) (N : News h₀ L s₁.heap ((y.e, excO y) :: news)) (h : E (.ref y.e) s₁) : RaisF K E (.ref y.e) s₁ :=
  ⟨y, rfl, (N _ (.head _)).1, X.keeps F.keep, h⟩
theorem Raise_fault {K : Frag} {h₀ : Heap} (_X : K.In h₀) {M : Model} {A : Around} {E : Value → Shared → Prop} {s : Shared} {env : Env} {e : PySem.Expr} {pos : Pos} {Q : Flow → Shared → Prop} (hh : A.handled = none) (hsub : subIn K (.ref 103) (.type "BaseException") = some true) (hty : typeIn K (.ref 103) = some (.type "type"))
    (h : wpAny M A (eval e env) (RaisF K E) E s) : wpAny M A (exec (.Raise (some e) none pos) env) Q E s := by
  show wpAny M A (do standAt pos; raiseStmt env (some (do let v ← eval e env; standAt pos; pure v)) none) Q E s
  refine wpAny_bind (wpAny_standAt ?_)
  unfold raiseStmt
  dsimp only
  refine wpAny_bind (wpAny_bind (wpAny_mono h (fun v s₁ h₁ => wpAny_bind (wpAny_standAt (wpAny_pure ?_))) fun _ _ x => x))
  obtain ⟨y, rfl, ha, X, hE⟩ := h₁
  have hT : Looks M s₁.heap (typeOf (.ref y.e)) (.ref 103) := (Looks.ld ha).andThen .now
  have hI : Looks M s₁.heap (isInstance (.ref y.e) (.type "BaseException")) true := hT.andThen (looks_subIn X hsub)
  have hM : Looks M s₁.heap (typeOf (.ref 103)) (.type "type") := looks_typeIn X hty
  have hnt : ∀ {Q' : Bool → Shared → Prop}, Q' false s₁ → wpAny M A (isType (.ref y.e)) Q' E s₁ := by
    intro Q' hq
    simp only [isType, loadHead]
    exact wpAny_bind (wpAny_loadPart ha (wpAny_pure hq))
  refine wpAny_bind (wpAny_pure ?_)
  dsimp only
  refine wpAny_bind (wpAny_holding ?_)
  unfold excFromValue isExcClass
  refine wpAny_bind (wpAny_bind (hnt ?_))
  simp only [Bool.false_eq_true, if_false]
  refine wpAny_pure ?_
  simp only [Bool.false_eq_true, if_false]
  refine wpAny_bind (hI.here ?_)
  simp only [if_true]
  refine wpAny_pure ?_
  refine wpAny_bind (hnt ?_)
  simp only [Bool.false_eq_true, if_false]
  unfold raisedInstance
  refine wpAny_bind (wpAny_bind (hT.here (wpAny_bind (hM.here ?_))))
  rw [if_pos (by decide)]
  refine wpAny_pure ?_
  unfold setFlight raiseNew
  refine wpAny_bind (wpAny_bind (wpAny_field (x := .none) ha rfl rfl ?_))
  rw [if_neg (by decide)]
  refine wpAny_pure (wpAny_bind (wpAny_handled ?_))
  rw [hh]
  first
    | exact wpAny_throw hE
    | exact wpAny_bind (wpAny_pure (wpAny_throw hE))

section
variable {M : Model} {A : Around} {E : Value → Shared → Prop} {s : Shared}
/-- what a frame's note leaves: a traceback T, the exception's field turned, the frames' slots -/
structure Noted (l : List Env) (e : Addr) (oe : Obj) (vs : Array Value) (h h' : Heap) (T : Addr) : Prop where
  other : ∀ b o, b ≠ e → b ∉ l.filterMap (·.frame) → h.get? b = some o → h'.get? b = some o
  slots : ∀ b o, b ≠ e → h.get? b = some o → ∃ sl, h'.get? b = some { o with slots := sl }
  new : ∀ b o, h.get? b = some o → b ≠ T
  exc : h'.get? e = some (Obj.mapFields (·.setIfInBounds 1 (.ref T)) oe)
  tb : ∃ oT ts, h'.get? T = some oT ∧ oT.data = .fields ts ∧ ts[3]? = some .none
theorem note_new {base : Heap} {env : Env} {outer : List Env} {L e : Addr} {oe : Obj} {vs : Array Value} {head : Value} {hadNext : Bool} {Q : Unit → Shared → Prop}
    (hfr : A.frames = some (env :: outer)) (hl : s.heap.FunFrames base (env :: outer)) (hf : env.frame = some L)
    (he : s.heap.get? e = some oe) (hd : oe.data = .fields vs) (hsz : 1 < vs.size)
    (h : ∀ h' T, Noted (env :: outer) e oe vs s.heap h' T → Q () { s with heap := h' }) :
    wpAny M A (do let a ← frameOf env; let pl ← entryPlaceOf L hadNext; let b ← EntryCells.newEntry head a .none (rawInt L) .none pl; setField (.ref e) 1 b) (fun _ s' => wpAny M A (setFlight (.ref e) none) Q E s') E s := by
  have hene : e ∉ (env :: outer).filterMap (·.frame) := fun hm => by
    obtain ⟨_, o, ho, hnf⟩ := hl.mem hm
    rw [he] at ho; injection ho with ho; subst ho; exact hnf vs hd
  refine wpAny_bind (wpAny_frameOf_fun hfr hl hf fun h₁ hs₁ => ?_)
  refine wpAny_bind (wpAny_entryPlaceOf fun pl hpl => ?_)
  unfold EntryCells.newEntry newFields
  refine wpAny_bind (wpAny_newObj_type ?_ (hpl.sizeOk5 _ _ _ _ _))
  have he₁ : h₁.get? e = some oe := (hs₁.2.1 e hene).trans he
  have he₂ := Heap.get?_push_of_some (h := h₁) { cls := .type "traceback", dict := none, data := .fields ([head, .ref L, .none, rawInt L, .none] ++ (if pl.isEmpty then List.replicate 6 Value.none else pl)).toArray } he₁
  refine wpAny_setField he₂ hd hsz ?_
  have hTe : h₁.objs.size ≠ e := Nat.ne_of_gt (Heap.lt_size he₁)
  have hd₃ := Obj.data_mapFields hd (·.setIfInBounds 1 (Value.ref h₁.objs.size))
  have he₃ := Heap.get?_update_self (Obj.mapFields (·.setIfInBounds 1 (Value.ref h₁.objs.size))) he₂ (Obj.isFreed_of_fields hd₃)
  have hT₃ := (Heap.get?_update_other (h₁.push { cls := .type "traceback", dict := none, data := .fields ([head, .ref L, .none, rawInt L, .none] ++ (if pl.isEmpty then List.replicate 6 Value.none else pl)).toArray })
    (Obj.mapFields (·.setIfInBounds 1 (Value.ref h₁.objs.size))) (Ne.symm hTe)).trans (Heap.get?_push_size h₁ rfl)
  unfold setFlight
  refine wpAny_bind (wpAny_field he₃ hd₃ (x := .ref h₁.objs.size) (by simp [hsz]) ?_)
  rw [if_pos (show (Value.ref h₁.objs.size != Value.none) = true from by simp)]
  refine wpAny_setField hT₃ rfl (by simp only [List.size_toArray, List.length_append, List.length_cons, List.length_nil] <;> omega) (h _ h₁.objs.size ?_)
  have keep : ∀ b o, b ≠ e → h₁.get? b = some o →
      (((h₁.push { cls := .type "traceback", dict := none, data := .fields ([head, .ref L, .none, rawInt L, .none] ++ (if pl.isEmpty then List.replicate 6 Value.none else pl)).toArray }).update e (Obj.mapFields (·.setIfInBounds 1 (Value.ref h₁.objs.size)))).update h₁.objs.size
        (Obj.mapFields (·.setIfInBounds 3 ((none : Option Addr).elim Value.none fun f => rawInt f)))).get? b = some o := fun b o hbe hb => by
    have hbT : h₁.objs.size ≠ b := Nat.ne_of_gt (Heap.lt_size hb)
    rw [Heap.get?_update_other _ _ hbT, Heap.get?_update_other _ _ (Ne.symm hbe)]
    exact Heap.get?_push_of_some _ hb
  refine ⟨fun b o hbe hbl hb => keep b o hbe ((hs₁.2.1 b hbl).trans hb), fun b o hbe hb => ?_, fun b o hb => ?_, ?_, ?_⟩
  · obtain ⟨sl, hs⟩ := hs₁.2.2 b o hb
    exact ⟨sl, keep b _ hbe hs⟩
  · obtain ⟨sl, hs⟩ := hs₁.2.2 b o hb
    exact Nat.ne_of_lt (Heap.lt_size hs)
  · rw [Heap.get?_update_other _ _ hTe]; exact he₃
  · refine ⟨_, _, Heap.get?_update_self _ hT₃ (Obj.isFreed_of_fields (Obj.data_mapFields rfl _)), Obj.data_mapFields rfl _, by first | (simp; done) | (rcases hpl with _ | _ <;> simp_all)⟩
end
section
variable {M : Model} {A : Around} {E : Value → Shared → Prop} {s' : Shared} {base g : Heap} {outer : List Env} {L a e : Addr} {m : Str → Option Value} {name : Str} {scope : Scope} {cd : Value} {Q : Unit → Shared → Prop} {news rc : List (Addr × Obj)} {msg : Str}
theorem frames_sub {env : Env} {l : List Env} {b : Addr} (h : b ∉ (env :: l).filterMap (·.frame)) : b ∉ l.filterMap (·.frame) := fun q => h (by
  obtain ⟨x, hx, hf⟩ := List.mem_filterMap.mp q
  exact List.mem_filterMap.mpr ⟨x, List.mem_cons_of_mem _ hx, hf⟩)
/-- Fly, from a heap that stood up to slots, noted once more -/
theorem fly_of {h h' : Heap} {env : Env} {oe : Obj} {vs : Array Value} {dm T : Addr} {h1 : Int} {k1 tm : Tok} (hN : Noted (env :: outer) e oe vs h h' T)
    (up : ∀ b o, g.get? b = some o → ∃ sl, h.get? b = some { o with slots := sl }) (eq : ∀ b o, g.get? b = some o → b ∉ outer.filterMap (·.frame) → b ∉ (env :: outer).filterMap (·.frame) ∧ h.get? b = some o)
    (led : ∀ p ∈ rc, h.get? p.1 = some p.2 ∧ g.get? p.1 = none ∧ p.1 ∉ (env :: outer).filterMap (·.frame) ∧ p.1 ≠ e) (ff : h.FunFrames base (env :: outer))
    (he : h.get? e = some oe) (hc : oe.cls = .ref 103) (hdi : oe.dict = some dm) (hd : oe.data = .fields vs) (hsz : 1 < vs.size) (hdm : h.get? dm = some (msgO h1 k1 tm msg)) (ge : g.get? e = none) (gd : g.get? dm = none) (fd : dm ∉ (env :: outer).filterMap (·.frame)) (hed : dm ≠ e) :
    Fly base g rc outer e msg h' := by
  obtain ⟨oT, ts, hT, hTd, hT3⟩ := hN.tb
  have gne : ∀ {b o}, g.get? b = some o → b ≠ e := fun q z => by rw [z, ge] at q; cases q
  refine ⟨fun b o q => ?_, fun b o q n => ?_, fun p hp => ?_, ?_, ?_⟩
  · obtain ⟨sl, hs⟩ := up b o q
    obtain ⟨sl', hs'⟩ := hN.slots b _ (gne q) hs
    exact ⟨sl', hs'⟩
  · obtain ⟨n', q'⟩ := eq b o q n
    exact hN.other b o (gne q) n' q'
  · obtain ⟨q1, q2, q3, q4⟩ := led p hp
    exact ⟨hN.other _ _ q4 q3 q1, q2, frames_sub q3⟩
  · have : h'.FunFrames base (env :: outer) := ff.of_keeps fun b o hb hnf => by
      have hbe : b ≠ e := fun z => by rw [z, he] at hb; cases hb; exact hnf vs hd
      obtain ⟨sl, hs⟩ := hN.slots b o hbe hb
      exact ⟨_, hs, rfl⟩
    exact this.2.2
  · have hTe : T ≠ e := Ne.symm (hN.new e oe he)
    refine ⟨_, _, T, oT, ts, dm, h1, k1, tm, hN.exc, (Obj.cls_mapFields _ _).trans hc, ?_, Obj.data_mapFields hd _, by simp [hsz], hTe, hT, hTd, hT3, hN.other dm _ hed fd hdm, ge, ?_, gd, frames_sub fd, fun p hp => ⟨(led p hp).2.2.2, hN.new _ _ (led p hp).1⟩⟩
    · obtain ⟨c', d', dt, sl⟩ := oe
      cases dt <;> first | exact hdi | (cases hd; exact hdi)
    · cases q : g.get? T with
      | none => rfl
      | some o => obtain ⟨sl, hs⟩ := up T o q; exact absurd rfl (hN.new T _ hs)
theorem leave_first {y : Ek} (K : Below A base outer g) (F : Fr g L s'.heap m) (N : News g L s'.heap ((y.e, excO y) :: (y.dm, msgO y.h1 y.k1 y.tm msg) :: rc)) (hlt : ∀ p ∈ rc, p.1 ≠ y.e)
    (hQ : ∀ h', Fly base g rc outer y.e msg h' → Q () { s' with heap := h' }) (hk : scope.kind = .function := by rfl) :
    wpAny M (A.deeper (envOf name scope L a cd)) (leaving (envOf name scope L a cd) (.ref y.e)) Q E s' := by
  have K' := K.push (name := name) (a := a) (cd := cd) F hk
  have he := N _ (.head _)
  have hm := N _ (.tail _ (.head _))
  have hed : y.dm ≠ y.e := fun q => by
    have h1 := hm.1
    rw [show (y.dm, msgO y.h1 y.k1 y.tm msg).1 = y.e from q] at h1
    have h2 := he.1.symm.trans h1
    cases h2
  have fr : ∀ {b : Addr}, b ≠ L → g.get? b = none → b ∉ ((envOf name scope L a cd) :: outer).filterMap (·.frame) := fun {b} hL hg q => by
    obtain ⟨env, hx, hf⟩ := List.mem_filterMap.mp q
    rcases List.mem_cons.mp hx with rfl | hx
    · exact hL (Option.some.inj hf).symm
    · obtain ⟨o, ho, _⟩ := (K.frames.mem (List.mem_filterMap.mpr ⟨env, hx, hf⟩)).2
      rw [hg] at ho; cases ho
  have gL : g.get? L = none := by
    cases q : g.get? L with
    | none => rfl
    | some o => exact absurd (Nat.lt_of_lt_of_le (Heap.lt_size q) F.above) (Nat.lt_irrefl _)
  unfold leaving noteFrame
  simp only [show (envOf name scope L a cd).frame = some L from rfl]
  refine wpAny_bind (wpAny_bind (wpAny_field (x := .none) he.1 rfl rfl ?_))
  rw [if_neg (by decide)]
  refine note_new (L := L) (oe := excO y) K'.stack K'.frames rfl he.1 rfl (by simp) fun h' T hN => hQ h' ?_
  exact fly_of hN (fun b o q => ⟨o.slots, F.keep b o q⟩) (fun b o q n => ⟨fun z => by
      obtain ⟨env, hx, hf⟩ := List.mem_filterMap.mp z
      rcases List.mem_cons.mp hx with rfl | hx
      · have : L = b := Option.some.inj hf
        rw [← this, gL] at q; cases q
      · exact n (List.mem_filterMap.mpr ⟨env, hx, hf⟩), F.keep b o q⟩)
    (fun p hp => ⟨(N p (.tail _ (.tail _ hp))).1, (N p (.tail _ (.tail _ hp))).2.2, fr (N p (.tail _ (.tail _ hp))).2.1 (N p (.tail _ (.tail _ hp))).2.2, hlt p hp⟩)
    K'.frames he.1 rfl rfl rfl (by simp) hm.1 he.2.2 hm.2.2 (fr hm.2.1 hm.2.2) hed
theorem leave_next {h₂ : Heap} (K : Below A base outer g) (F : Fr g L h₂ m) (R : Fly base g rc (envOf name scope L a cd :: outer) e msg s'.heap)
    (hQ : ∀ h', Fly base g rc outer e msg h' → Q () { s' with heap := h' }) :
    wpAny M (A.deeper (envOf name scope L a cd)) (leaving (envOf name scope L a cd) (.ref e)) Q E s' := by
  have gL : g.get? L = none := by
    cases q : g.get? L with
    | none => rfl
    | some o => exact absurd (Nat.lt_of_lt_of_le (Heap.lt_size q) F.above) (Nat.lt_irrefl _)
  obtain ⟨oe, vs, T, oT, ts, dm, h1, k1, tm, a1, a2, a3, a4, a5, a6, a7, a8, a9, a10, b1, b2, b3, b4, b5⟩ := R.tr
  have hsz : 1 < vs.size := (Array.getElem?_eq_some_iff.mp a5).1
  unfold leaving noteFrame
  simp only [show (envOf name scope L a cd).frame = some L from rfl]
  refine wpAny_bind (wpAny_bind (wpAny_field a1 a4 a5 ?_))
  rw [if_pos (show (Value.ref T != Value.none) = true from by simp)]
  refine wpAny_bind (wpAny_field a7 a8 a9 ?_)
  rw [if_neg (show ¬ ((Value.none == rawInt L) = true) from by simp [rawInt])]
  refine wpAny_bind (wpAny_setField a7 a8 (Array.getElem?_eq_some_iff.mp a9).1 ?_)
  have other : ∀ b, b ≠ T → (s'.heap.update T (Obj.mapFields (·.setIfInBounds 3 Value.none))).get? b = s'.heap.get? b := fun b hb => Heap.get?_update_other _ _ (Ne.symm hb)
  have gT : ∀ {b o}, g.get? b = some o → b ≠ T := fun q z => by rw [z, b2] at q; cases q
  have ff' : (s'.heap.update T (Obj.mapFields (·.setIfInBounds 3 Value.none))).FunFrames base (envOf name scope L a cd :: outer) := R.ff.of_keeps fun b o hb hnf => ⟨o, (other b fun q => by rw [q, a7] at hb; cases hb; exact hnf ts a8).trans hb, rfl⟩
  have hdT : dm ≠ T := fun z => by rw [z, a7] at a10; cases a10; cases a8
  have hed : dm ≠ e := fun z => by rw [z, a1] at a10; cases a10; cases a4
  refine note_new (L := L) (oe := oe) (Around.frames_deeper K.stack) ff' rfl ((other e (Ne.symm a6)).trans a1) a4 hsz fun h' T' hN => hQ h' ?_
  refine fly_of hN (fun b o q => ?_) (fun b o q n => ?_) (fun p hp => ?_) ff' ((other e (Ne.symm a6)).trans a1) a2 a3 a4 hsz ((other dm hdT).trans a10) b1 b3 b4 hed
  · obtain ⟨sl, hs⟩ := R.up b o q
    exact ⟨sl, (other b (gT q)).trans hs⟩
  · have n' : b ∉ (envOf name scope L a cd :: outer).filterMap (·.frame) := fun z => by
      obtain ⟨env, hx, hf⟩ := List.mem_filterMap.mp z
      rcases List.mem_cons.mp hx with rfl | hx
      · have : L = b := Option.some.inj hf
        rw [← this, gL] at q; cases q
      · exact n (List.mem_filterMap.mpr ⟨env, hx, hf⟩)
    exact ⟨n', (other b (gT q)).trans (R.eq b o q n')⟩
  · obtain ⟨q1, q2, q3⟩ := R.led p hp
    obtain ⟨q4, q5⟩ := b5 p hp
    exact ⟨(other _ q5).trans q1, q2, q3, q4⟩
end
theorem Ns.upTo {h h' : Heap} {a : Addr} {m : Str → Option Value} (hn : h.Ns a m) (up : ∀ b o, h.get? b = some o → ∃ sl, h'.get? b = some { o with slots := sl }) : h'.Ns a m := by
  obtain ⟨o, es, ep, ho, hd, r⟩ := hn
  obtain ⟨sl, hs⟩ := up a o ho
  exact ⟨_, es, ep, hs, hd, r⟩
theorem Fly.out {base g h₀ h : Heap} {L : Addr} {m : Str → Option Value} {rc rest : List (Addr × Obj)} {l : List Env} {e : Addr} {msg : Str} {s : Shared} {E : Value → Shared → Prop} {tk : Nat}
    (hex : RetE base h₀ L m l s E msg rest) (R : Fly base g rc l e msg h) (FG : Fr h₀ L g m) (hs : ∀ p ∈ rest, p ∈ rc) : E (.ref e) { s with heap := h, toks := tk } := by
  refine hex e h tk ⟨fun b o q => R.up b o (FG.keep b o q), fun b o q n => R.eq b o (FG.keep b o q) n, fun p hp => ?_, R.ff, ?_⟩ (Ns.upTo FG.ns R.up)
  · obtain ⟨a, b, c⟩ := R.led p (hs p hp)
    refine ⟨a, ?_, c⟩
    cases q : h₀.get? p.1 with
    | none => rfl
    | some o => rw [FG.keep _ _ q] at b; cases b
  · obtain ⟨oe, vs, T, oT, ts, dm, h1, k1, tm, a1, a2, a3, a4, a5, a6, a7, a8, a9, a10, b1, b2, b3, b4, b5⟩ := R.tr
    have low : ∀ {b : Addr}, g.get? b = none → h₀.get? b = none := fun {b} e => by
      cases q : h₀.get? b with
      | none => rfl
      | some o => rw [FG.keep _ _ q] at e; cases e
    exact ⟨oe, vs, T, oT, ts, dm, h1, k1, tm, a1, a2, a3, a4, a5, a6, a7, a8, a9, a10, low b1, low b2, low b3, b4, fun p hp => b5 p (hs p hp)⟩

-- P1
/-- what a step of the scanner yields at a place: a fault with its message, or a word and the signs that it takes -/
inductive Out where
  | fault (m : Str)
  | word (kind text : Str) (k : Nat)
def sO (s : String) : Str := Str.ofString s
def atS (s : String) (n : Int) : Str := Str.ofString s ++ Str.ofString (toString n)
def numN (r : List Nat) : Nat :=
  if (sgn (r.drop (figN r)) == Str.ofString ".") && (sgn (r.drop (figN r)).tail != Str.ofString ".") then figN r + (1 + figN (r.drop (figN r)).tail) else figN r
def numO (r : List Nat) : Out := .word (Str.ofString "number") (txt (r.take (numN r))) (numN r)
def markT (r : List Nat) : Str :=
  if [Str.ofString "//", Str.ofString "!=", Str.ofString "<=", Str.ofString ">=", Str.ofString "..", Str.ofString "::"].any fun x => x == sgn r ++ sgn r.tail then sgn r ++ sgn r.tail else sgn r
def markO (n : Int) (r : List Nat) : Out :=
  if [Str.ofString "/", Str.ofString "//", Str.ofString "|", Str.ofString "+", Str.ofString "-", Str.ofString "=", Str.ofString "!=", Str.ofString "<", Str.ofString "<=", Str.ofString ">", Str.ofString ">="].any fun x => x == markT r then .word (Str.ofString "operator") (markT r) (markT r).length
  else if [Str.ofString "(", Str.ofString ")", Str.ofString "[", Str.ofString "]", Str.ofString ".", Str.ofString "..", Str.ofString "@", Str.ofString ",", Str.ofString "::"].any fun x => x == markT r then .word (Str.ofString "sign") (markT r) (markT r).length
  else .fault (Str.ofString "a strange sign at " ++ Str.ofString (toString n))
def behF (kind text : Str) : Bool :=
  !(kind == Str.ofString "operator") && !((kind == Str.ofString "sign") && [Str.ofString "@", Str.ofString "::", Str.ofString "(", Str.ofString "[", Str.ofString ","].any fun x => x == text)
/-- a qualified name: its text and its signs, or the place where it fails -/
inductive Qual where
  | bad (k : Nat)
  | ok (name : Str) (k : Nat)
def qual (r : List Nat) : Qual :=
  if (txt (r.take (nmN r)) == Str.ofString "") || (sgn (r.drop (nmN r)) != Str.ofString ":") || (sgn (r.drop (nmN r)).tail == Str.ofString ":") then .ok (txt (r.take (nmN r))) (nmN r)
  else if sgn (r.drop (nmN r)).tail == Str.ofString "*" then .ok (txt (r.take (nmN r)) ++ Str.ofString ":*") (nmN r + 1 + 1)
  else if txt ((r.drop (nmN r)).tail.take (nmN (r.drop (nmN r)).tail)) == Str.ofString "" then .bad (nmN r + 1 + nmN (r.drop (nmN r)).tail)
  else .ok (txt (r.take (nmN r)) ++ Str.ofString ":" ++ txt ((r.drop (nmN r)).tail.take (nmN (r.drop (nmN r)).tail))) (nmN r + 1 + nmN (r.drop (nmN r)).tail)
def varO (n : Int) (r : List Nat) : Out := match qual r.tail with
  | .bad k => .fault (Str.ofString "a name is missing behind a colon at " ++ Str.ofString (toString (n + 1 + (k : Int))))
  | .ok name k => if (name == Str.ofString "") || Txt.endswith name (Str.ofString "*") then .fault (Str.ofString "a variable has no name at " ++ Str.ofString (toString n)) else .word (Str.ofString "variable") name (1 + k)
def nameO (b : Bool) (n : Int) (r : List Nat) : Out :=
  if b then
    if [Str.ofString "and", Str.ofString "or", Str.ofString "mod", Str.ofString "div"].any fun x => x == txt (r.take (nmN r)) then .word (Str.ofString "operator") (txt (r.take (nmN r))) (nmN r)
    else .fault (Str.ofString "an operator is missing at " ++ Str.ofString (toString n))
  else match qual r with
  | .bad k => .fault (Str.ofString "a name is missing behind a colon at " ++ Str.ofString (toString (n + (k : Int))))
  | .ok name k =>
    let r1 := r.drop k
    let r2 := r1.drop (spN r1)
    if (sgn r2 == Str.ofString "(") && !Txt.endswith name (Str.ofString "*") then
      .word (if [Str.ofString "comment", Str.ofString "text", Str.ofString "processing-instruction", Str.ofString "node"].any fun x => x == name then Str.ofString "kind" else Str.ofString "function") name (k + spN r1)
    else if (sgn r2 == Str.ofString ":") && (sgn r2.tail == Str.ofString ":") then .word (Str.ofString "axis") name (k + spN r1)
    else .word (Str.ofString "name") name k
theorem sgn_len (r : List Nat) : (sgn r).length ≤ 1 := by
  cases r with
  | nil => exact Nat.zero_le _
  | cons c r => exact Nat.le_refl 1
theorem nm_le (r : List Nat) : nmN r ≤ r.length := by
  unfold nmN
  split
  · exact Nat.zero_le _
  · split
    · exact Nat.zero_le _
    · unfold nmC; exact (List.takeWhile_sublist _).length_le
theorem sp_le (r : List Nat) : spN r ≤ r.length := (List.takeWhile_sublist _).length_le
theorem fig_le (r : List Nat) : figN r ≤ r.length := (List.takeWhile_sublist _).length_le
theorem txt_len (l : List Nat) : (txt l).length = l.length := rfl
theorem Sf.len1000 {T : Str} {n : Int} {r : List Nat} (h : Sf T n r) : r.length ≤ 1000 := by
  have h1 := h.size
  have h2 := h.sz
  omega
theorem Sf.txt1000 {T : Str} {n : Int} {r : List Nat} (h : Sf T n r) (k : Nat) : (txt (r.take k)).length ≤ 1000 := by
  have h1 := h.len1000
  rw [txt_len, List.length_take]
  omega
theorem Sf.n1000 {T : Str} {n : Int} {r : List Nat} (h : Sf T n r) (hr : r ≠ []) : n ≤ 1000 := by
  have h1 := h.len.mpr hr
  have h2 := h.sz
  omega

-- P2
def litO (r : List Nat) : Out := match r with
  | [] => .fault ⟨#[]⟩
  | c :: r => .word (Str.ofString "literal") (txt (r.takeWhile (· != c))) ((r.takeWhile (· != c)).length + 2)
def stepO (b : Bool) (n : Int) (r : List Nat) : Out :=
  if isFig (sgn r) || ((sgn r == Str.ofString ".") && ((sgn r.tail != Str.ofString "") && isFig (sgn r.tail))) then numO r
  else if [Str.ofString "'", Str.ofString "\""].any (fun x => x == sgn r) then litO r
  else if sgn r == Str.ofString "$" then varO n r
  else if sgn r == Str.ofString "*" then .word (if b then Str.ofString "operator" else Str.ofString "name") (Str.ofString "*") 1
  else if isStart (sgn r) && (sgn r != Str.ofString ":") then nameO b n r
  else markO n r
theorem at_one (x : Str) (c i : Nat) : StrLaws.At x ⟨#[c]⟩ x.length i ↔ x.cps.toList[i]? = some c := StrLaws.subAt_one x c i
theorem find_first (T : Str) (c lo j : Nat) (hj : T.cps.toList[lo + j]? = some c) (hlt : ∀ i, i < j → T.cps.toList[lo + i]? ≠ some c) :
    Builtin.Str.occurrences T ⟨#[c]⟩ lo T.length 1 = [lo + j] ∨ ∃ r, Builtin.Str.occurrences T ⟨#[c]⟩ lo T.length 1 = (lo + j) :: r := by
  right
  rw [StrLaws.occ_eq]
  have hb : lo + j < T.length := by
    obtain ⟨h, _⟩ := List.getElem?_eq_some_iff.mp hj
    rw [Array.length_toList] at h
    exact h
  have hf : ∀ i ∈ List.range' lo (T.length + 1 - lo), lo ≤ i := fun i hi => (List.mem_range'_1.mp hi).1
  rcases StrLaws.occ_first T ⟨#[c]⟩ T.length 1 (Nat.le_refl 1) (List.range' lo (T.length + 1 - lo)) lo hf with ⟨_, hn⟩ | ⟨pre, a, post, e, h0, ha, hn⟩
  · exact absurd ((at_one T c (lo + j)).mpr hj) (hn (lo + j) (List.mem_range'_1.mpr ⟨by omega, by omega⟩))
  · obtain ⟨k, hk, rfl, e2⟩ := List.range'_eq_append_iff.mp e
    have hak : a = lo + k := by
      have := congrArg List.head? e2
      rw [List.head?_cons] at this
      cases q : (T.length + 1 - lo - k) with
      | zero => rw [q] at this; simp at this
      | succ n => rw [q, List.range'_succ] at this; simpa using this
    have hja : k = j := by
      rcases Nat.lt_trichotomy k j with h | h | h
      · exact absurd ((at_one T c a).mp ha) (hak ▸ hlt k h)
      · exact h
      · exact absurd ((at_one T c (lo + j)).mpr hj) (hn _ (List.mem_range'_1.mpr ⟨by omega, by omega⟩))
    subst hja
    rw [hak] at h0
    generalize (forIn (List.range' lo (T.length + 1 - lo)) ((#[] : Array Nat), lo) (StrLaws.occBody T ⟨#[c]⟩ T.length 1)).run.fst = arr at h0
    obtain ⟨l⟩ := arr
    cases l with
    | nil => simp at h0
    | cons x l =>
      have : x = lo + k := by simpa using h0
      exact ⟨l, by rw [this]⟩
theorem Sf.find {T : Str} {n : Int} {c : Nat} {r : List Nat} (h : Sf T n r) (hc : c ∈ r) : Txt.find3 T ⟨#[c]⟩ n = n + ((r.takeWhile (· != c)).length : Int) := by
  have hn := h.nn
  have hd := h.dr
  have key : ∀ (r : List Nat), c ∈ r → r[(r.takeWhile (· != c)).length]? = some c ∧ ∀ i, i < (r.takeWhile (· != c)).length → r[i]? ≠ some c := by
    intro r
    induction r with
    | nil => intro h; cases h
    | cons a r ih =>
      intro h
      by_cases hac : a = c
      · subst hac
        have : (a :: r).takeWhile (· != a) = [] := by simp
        rw [this]
        exact ⟨rfl, fun i hi => absurd hi (Nat.not_lt_zero _)⟩
      · have hm : c ∈ r := (List.mem_cons.mp h).resolve_left (fun q => hac q.symm)
        have : (a :: r).takeWhile (· != c) = a :: r.takeWhile (· != c) := by rw [List.takeWhile_cons]; simp [hac]
        rw [this]
        refine ⟨(ih hm).1, fun i hi => ?_⟩
        cases i with
        | zero => simp [hac]
        | succ i => exact (ih hm).2 i (by simpa using hi)
  obtain ⟨k1, k2⟩ := key r hc
  have at' : ∀ i, T.cps.toList[n.toNat + i]? = r[i]? := fun i => by rw [← hd, List.getElem?_drop]
  have hfi : fromIndex T.length n = n.toNat := by unfold fromIndex; rw [if_neg (by omega)]; congr 1; omega
  unfold Txt.find3
  rw [hfi]
  rcases find_first T c n.toNat (r.takeWhile (· != c)).length (by rw [at', k1]) (fun i hi => by rw [at']; exact k2 i hi) with e | ⟨q, e⟩ <;> rw [e] <;> simp only [] <;> omega

-- P3
abbrev RowT := Str × Str × Int
/-- how the scanner goes on: so many words, from a place, to a fault or to its rows -/
inductive Runs : Nat → Bool → Int → List Nat → Sum Str (List RowT) → Prop
  | nil (b : Bool) (n : Int) : Runs 1 b n [] (.inr [(Str.ofString "end", Str.ofString "", n)])
  | fault {b : Bool} {n : Int} {c : Nat} {r : List Nat} {m : Str} (h : stepO b n (c :: r) = .fault m) (hq : [Str.ofString "'", Str.ofString "\""].any (fun x => x == sgn (c :: r)) = true → c ∈ r) : Runs 0 b n (c :: r) (.inl m)
  | bad {b : Bool} {n : Int} {c : Nat} {r : List Nat} {kind text : Str} {k j : Nat} {cnt : Nat} {m : Str} (h : stepO b n (c :: r) = .word kind text k) (hq : [Str.ofString "'", Str.ofString "\""].any (fun x => x == sgn (c :: r)) = true → c ∈ r) (hk : 1 ≤ k) (hj : spN ((c :: r).drop k) = j)
      (t : Runs cnt (behF kind text) (n + (k : Int) + (j : Int)) (((c :: r).drop k).drop j) (.inl m)) : Runs (cnt + 1) b n (c :: r) (.inl m)
  | word {b : Bool} {n : Int} {c : Nat} {r : List Nat} {kind text : Str} {k j : Nat} {cnt : Nat} {l : List RowT} (h : stepO b n (c :: r) = .word kind text k) (hq : [Str.ofString "'", Str.ofString "\""].any (fun x => x == sgn (c :: r)) = true → c ∈ r) (hk : 1 ≤ k) (hj : spN ((c :: r).drop k) = j)
      (t : Runs cnt (behF kind text) (n + (k : Int) + (j : Int)) (((c :: r).drop k).drop j) (.inr l)) : Runs (cnt + 1) b n (c :: r) (.inr ((kind, text, n) :: l))
theorem fault_word {m kind text : Str} {k : Nat} {P : Prop} (h : Out.fault m = .word kind text k) : P := nomatch h
theorem word_fault {m kind text : Str} {k : Nat} {P : Prop} (h : Out.word kind text k = .fault m) : P := nomatch h

-- X2
theorem hk24 : True := by
  k_with_none
  exact True.intro
theorem hk17 : True := by
  k_with "mine call ref" => ((k_here; (k_dflt (show wpAny _ _ (call (Value.ref 52) _) _ _ _)); k_dflt (refine' useU (C := is_space_c _ _ _ _ _ (by first | assumption | exact rfl)) (hp := ?_)); intro h'_q tk'_q F'_q N'_q))
  exact True.intro
theorem hk18 : True := by
  k_with "mine call ref" => ((k_here; (k_dflt (show wpAny _ _ (call (Value.ref 66) _) _ _ _)); k_dflt (refine' useU (C := is_name_start_c _ _ _ _ _ (by first | assumption | exact Sf.head (by assumption)) (by first | assumption | exact rfl)) (hp := ?_)); intro h'_q tk'_q F'_q N'_q))
  exact True.intro
theorem hk19 : True := by
  k_with "mine call ref" => ((k_here; (k_dflt (show wpAny _ _ (call (Value.ref 73) _) _ _ _)); k_dflt (refine' useU (C := is_name_char_c _ _ _ _ _ (by first | assumption | exact Sf.head (by assumption)) (by first | assumption | exact rfl)) (hp := ?_)); intro h'_q tk'_q F'_q N'_q))
  exact True.intro
theorem hk20 : True := by
  k_with "mine k_all" => (assumption)
  exact True.intro
theorem hk21 : True := by
  k_with "mine k_room" => (ktr_room)
  exact True.intro
theorem hk22 : True := by
  k_with "mine k_units" => (ktr_units)
  exact True.intro

theorem meta_exc : typeOf (.type "Exception") = pure (.type "type") := by with_unfolding_all rfl
theorem hk23 : True := by
  k_with "mine getMethod type:Exception" => ((k_here; refine' method_type ?F ?X ?m (by decide +kernel) ?e ?h ?_; (case F => k_asm); (case X => k_asm); (case m => exact meta_exc); (case e => k_dflt k_is); (case h => k_handed)))
  exact True.intro
abbrev exc0 (dm : Option Addr) (t : Addr) : Obj := { cls := .ref 103, dict := dm, data := .fields #[.ref t, .none, .none, .none, .bool false, .none] }
section
variable {prog : Program} {w : World} {A : Around} {E : Value → Shared → Prop} {h : Heap} {g : Array GenState} {d : Drawn} {tk0 : Nat} {os : OsState}
variable {nm q : Str} {C N : Addr} {bs bm : List Value} {hdct : Bool} {sn : List Str} {sub : List Value} {ab : Bool} {col : Option Bool} {dd : Option Addr} {k0 k1 k2 k3 k5 : Option Value} {B newId initId : String} {bmB : List Value} {id0 : String}
theorem check_init (F : ExcBaseFacts B newId initId bmB) (hcB : (Value.ref C :: bm).contains (.type B) = true) {M : Model} {e : Addr} {oe : Obj} {rest : List Value} {Q : Unit → Shared → Prop}
    (hC : h.get? C = some (excClassObj nm q C N bs bm hdct sn sub ab col dd k0 k1 k2 k3 k5 id0)) (he : h.get? e = some oe) (hcls : oe.cls = .ref C) (hq : Q () ⟨h, g, d, tk0, os⟩) :
    wpAny M A (checkBuiltinCall initId ⟨.ref e :: rest, []⟩) Q E ⟨h, g, d, tk0, os⟩ := by
  have hshort := F.noStar
  simp only [checkBuiltinCall, F.initKind, F.initSplit, F.initRow]
  repeat (first | (with_reducible refine wpAny_loadPart_at he ?_; rw [hcls]) | with_reducible refine wpAny_loadPart_at hC ?_ | (with_reducible refine wpAny_isSubtype_exc hC ?_; rw [hcB]) | wp_step)
  refine wpAny_onRaise ?_
  rw [show ∀ (a b : String) (n : Nat), Bind.check ⟨.positional, "*", B, .self, [⟨"args", .varPos, false⟩]⟩ a b n (List.map (fun x => x.fst) ({ pos := Value.ref e :: rest } : Args).kw) = pure () from
    fun a b n => check_star_args _ _ _ _ _ _]
  exact wpAny_pure hq
theorem check_new (Fn : ExcBaseFacts B newId initId bmB) (hcont : (Value.ref C :: bm).contains (.type B) = true) {M : Model} {rest : List Value} {Q : Unit → Shared → Prop} (hC : h.get? C = some (excClassObj nm q C N bs bm hdct sn sub ab col dd k0 k1 k2 k3 k5 newId))
    (hq : Q () ⟨h, g, d, tk0, os⟩) : wpAny M A (checkBuiltinCall newId ⟨.ref C :: rest, []⟩) Q E ⟨h, g, d, tk0, os⟩ := by
  have hstar := Fn.noStar
  simp only [checkBuiltinCall, Fn.newKind, Fn.newSplit, Fn.newRow]
  repeat (first | refine wpAny_loadPart_at hC ?_ | (refine wpAny_isSubtype_exc hC ?_; rw [hcont]) | refine wpAny_staticBase_exc hC ?_ | refine wpAny_madeBy_exc hC ?_ | simp only [bne_self_eq_false, Bool.false_eq_true, if_false] | wp_step)
  exact hq
theorem code_new {R : Result → Shared → Prop} (Fn : ExcBaseFacts B newId initId bmB) (hcB : (Value.ref C :: bm).contains (.type B) = true) (hcA : (Value.ref C :: bm).contains (.type "AttributeError") = false) (hcN : (Value.ref C :: bm).contains (.type "NameError") = false) {rest : List Value} (hC : h.get? C = some (excClassObj nm q C N bs bm hdct sn sub ab col dd k0 k1 k2 k3 k5 newId))
    (hq : R (.ok (.ret (.ref (h.objs.size + 1)))) ⟨(h.push { cls := .type "tuple", data := .seq rest.toArray }).push
      { cls := .ref C, data := .fields #[.ref h.objs.size, .none, .none, .none, .bool false, .none] }, g, d, tk0, os⟩) (hrest : rest.length ≤ sizeLine := by size_fits) :
    codeAny (model prog w) A (.builtin newId ⟨.ref C :: rest, []⟩) R ⟨h, g, d, tk0, os⟩ := by
  have hends := Fn.ends
  refine codeAny_builtinAt Fn.entry ?_
  unfold Builtin.«BaseException.__new__»
  refine PySem.wpAt_bind ?_
  show PySem.wpAt _ _ _ (stack >>= _) _ _ _
  refine PySem.wpAt_bind (PySem.wpAt_stack fun p below => PySem.wpAt_of_wpAny ?_)
  wp_walk
  refine PySem.wpAt_of_wpAny ?_
  rw [Fn.owner]
  repeat (first | with_reducible refine wpAny_madeHere_exc Fn.canon hC ?_ | with_reducible refine wpAny_loadPart_at hC ?_ | (with_reducible refine wpAny_isSubtype_exc hC ?_; first | rw [hcB] | rw [hcA] | rw [hcN]) | wp_step)
  show R _ _
  rw [Heap.size_push]
  exact hq
theorem init_call (F : ExcBaseFacts B newId initId bmB) (hcB : (Value.ref C :: bm).contains (.type B) = true) {e t0 : Addr} {rest : List Value} {dx : Option Addr} {Q : Value → Shared → Prop}
    (hC : h.get? C = some (excClassObj nm q C N bs bm hdct sn sub ab col dd k0 k1 k2 k3 k5 id0)) (he : h.get? e = some { cls := .ref C, dict := dx, data := .fields #[.ref t0, .none, .none, .none, .bool false, .none] })
    (hq : Q .none ⟨(h.push { cls := .type "tuple", data := .seq rest.toArray }).update e (Obj.mapFields (·.setIfInBounds 0 (.ref h.objs.size))), g, d, tk0, os⟩) (hrest : rest.length ≤ sizeLine := by size_fits) :
    wpAny (model prog w) A (call (.builtin initId) (.ref e :: rest)) Q E ⟨h, g, d, tk0, os⟩ := by
  refine wpAny_call (codeAny_call_builtin F.init.plain F.initEntry (check_init F hcB hC he rfl ?_))
  wp_walk
  exact hq
theorem type_call (F : ExcBaseFacts B newId initId bmB) (hcB : (Value.ref C :: bm).contains (.type B) = true) (hcA : (Value.ref C :: bm).contains (.type "AttributeError") = false) (hcN : (Value.ref C :: bm).contains (.type "NameError") = false) {rest : List Value} {fI : Addr} {oI : Obj} {Q : Fin → Shared → Prop}
    (hC : h.get? C = some (excClassObj nm q C N bs bm hdct sn sub ab col dd k0 k1 k2 k3 k5 newId))
    (hi : ∀ h' : Heap, (∀ b o, h.get? b = some o → h'.get? b = some o) → Looks (model prog w) h' (typeLookup (.ref C) "__init__") (some (.ref fI)))
    (hfI : h.get? fI = some oI) (hfc : oI.cls = .type "function")
    (hq : wpAny (model prog w) A (call (.ref fI) (.ref (h.objs.size + 1) :: rest)) (fun r s' => r = .none ∧ Q (.done (.ret (.ref (h.objs.size + 1)))) s') E ⟨(h.push { cls := .type "tuple", data := .seq rest.toArray }).push
      { cls := .ref C, data := .fields #[.ref h.objs.size, .none, .none, .none, .bool false, .none] }, g, d, tk0, os⟩) (hrest : rest.length ≤ sizeLine := by size_fits) :
    wpAny (model prog w) A (Builtin.«type.__call__» ⟨.ref C :: rest, []⟩) Q E ⟨h, g, d, tk0, os⟩ := by
  repeat (first | with_reducible refine wpAny_loadPart_at hC ?_ | with_reducible refine wpAny_madeBy_exc hC ?_ | wp_step)
  refine codeAny_call_builtin_code (Code.quiet_builtin _ F.quiet) (check_new F hcB hC ?_)
  refine code_new F hcB hcA hcN hC ?_ hrest
  show wpAny _ _ _ _ _ _
  have up : ∀ b o, h.get? b = some o → ((h.push { cls := .type "tuple", data := .seq rest.toArray }).push { cls := .ref C, data := .fields #[.ref h.objs.size, .none, .none, .none, .bool false, .none] }).get? b = some o := fun b o hb => Heap.get?_push_of_some _ (Heap.get?_push_of_some _ hb)
  have hC₁ := up _ _ hC
  have hfI₁ := up _ _ hfI
  have hget : ((h.push { cls := .type "tuple", data := .seq rest.toArray }).push
      { cls := .ref C, data := .fields #[.ref h.objs.size, .none, .none, .none, .bool false, .none] }).get? (h.objs.size + 1) = some
      { cls := .ref C, data := .fields #[.ref h.objs.size, .none, .none, .none, .bool false, .none] } := by heap_get
  have hcC : (Value.ref C :: bm).contains (.ref C) = true := by simp
  unfold isInstance
  repeat (first | with_reducible refine wpAny_loadPart_at hget ?_ | (with_reducible refine wpAny_isSubtype_exc hC₁ ?_; rw [hcC]) | wp_step)
  show wpAny _ _ (typeLookup (.ref C) _) _ _ _
  refine (hi _ up).here ?_
  refine wpAny_holding (wpAny_bind ?_)
  unfold bindSpecial
  refine wpAny_bind (wpAny_typeOf (T := "function") ⟨_, hfI₁, hfc⟩ ?_)
  rw [if_pos (by decide)]
  refine wpAny_pure (wpAny_bind (wpAny_mono hq (fun r s' hr => ?_) fun _ _ x => x))
  obtain ⟨rfl, hQ⟩ := hr
  wp_walk
  exact hQ
theorem make_call (F : ExcBaseFacts B newId initId bmB) (hcB : (Value.ref C :: bm).contains (.type B) = true) (hcA : (Value.ref C :: bm).contains (.type "AttributeError") = false) (hcN : (Value.ref C :: bm).contains (.type "NameError") = false) {rest : List Value} {fI : Addr} {oI : Obj} {Q : Value → Shared → Prop}
    (hC : h.get? C = some (excClassObj nm q C N bs bm hdct sn sub ab col dd k0 k1 k2 k3 k5 newId))
    (hi : ∀ h' : Heap, (∀ b o, h.get? b = some o → h'.get? b = some o) → Looks (model prog w) h' (typeLookup (.ref C) "__init__") (some (.ref fI)))
    (hfI : h.get? fI = some oI) (hfc : oI.cls = .type "function")
    (hq : wpAny (model prog w) (A.under (.builtin "type.__call__" ⟨.ref C :: rest, []⟩)) (call (.ref fI) (.ref (h.objs.size + 1) :: rest)) (fun r s' => r = .none ∧ Q (.ref (h.objs.size + 1)) s') E ⟨(h.push { cls := .type "tuple", data := .seq rest.toArray }).push
      { cls := .ref C, data := .fields #[.ref h.objs.size, .none, .none, .none, .bool false, .none] }, g, d, tk0, os⟩) (hrest : rest.length ≤ sizeLine := by size_fits) :
    wpAny (model prog w) A (call (.ref C) rest) Q E ⟨h, g, d, tk0, os⟩ := by
  have f1 := tc_lookup
  have f2 := tc_bind (.ref C)
  have hT : (⟨h, g, d, tk0, os⟩ : Shared).TypeIs (.ref C) "type" := ⟨_, hC, rfl⟩
  refine wpAny_call (codeAny_of_tree ?_)
  show wpAny _ _ (callAny (.ref C) _) _ _ _
  repeat (any_goals (first | assumption | with_reducible refine wpAny_loadPart_at hC ?_ | wp_step))
  refine ⟨rfl, ?_⟩
  refine codeAny_call_builtin_at (Code.quiet_builtin _ (by decide +kernel)) entry_typeCall (wpAny_check_type_call_sub hC (type_call (hrest := hrest) F hcB hcA hcN hC hi hfI hfc ?_))
  exact hq
end

-- X3
theorem hk34 : True := by
  k_with_none
  exact True.intro
section
theorem hk25 : True := by
  k_with "mine call ref" => ((k_here; (k_dflt (show wpAny _ _ (call (Value.ref 52) _) _ _ _)); k_dflt (refine' useU (C := is_space_c _ _ _ _ _ (by first | assumption | exact rfl)) (hp := ?_)); intro h'_q tk'_q F'_q N'_q))
  exact True.intro
theorem hk26 : True := by
  k_with "mine call ref" => ((k_here; (k_dflt (show wpAny _ _ (call (Value.ref 66) _) _ _ _)); k_dflt (refine' useU (C := is_name_start_c _ _ _ _ _ (by first | assumption | exact Sf.head (by assumption)) (by first | assumption | exact rfl)) (hp := ?_)); intro h'_q tk'_q F'_q N'_q))
  exact True.intro
theorem hk27 : True := by
  k_with "mine call ref" => ((k_here; (k_dflt (show wpAny _ _ (call (Value.ref 73) _) _ _ _)); k_dflt (refine' useU (C := is_name_char_c _ _ _ _ _ (by first | assumption | exact Sf.head (by assumption)) (by first | assumption | exact rfl)) (hp := ?_)); intro h'_q tk'_q F'_q N'_q))
  exact True.intro
theorem hk28 : True := by
  k_with "mine k_all" => (assumption)
  exact True.intro
theorem hk29 : True := by
  k_with "mine k_room" => (ktr_room)
  exact True.intro
theorem hk30 : True := by
  k_with "mine k_units" => (ktr_units)
  exact True.intro

theorem hk31 : True := by
  k_with "mine getMethod type:Exception" => ((k_here; refine' method_type ?F ?X ?m (by decide +kernel) ?e ?h ?_; (case F => k_asm); (case X => k_asm); (case m => exact meta_exc); (case e => k_dflt k_is); (case h => k_handed)))
  exact True.intro
open Builtin Builtin.ObjectAttr
section
variable {prog : Program} {w : World} {A : Around} {E : Value → Shared → Prop} {s : Shared} {K : Frag} {e t L : Addr} {h₀ : Heap} {m : Str → Option Value} {news : List (Addr × Obj)} {name : Str} {v : Value} {R : Result → Shared → Prop} {tk : Tok}
theorem osa_exc {cd : ClassData} (F : Fr h₀ L s.heap m) (X₀ : K.In h₀) (N : News h₀ L s.heap ((e, exc0 none t) :: news)) (hne : ∀ p ∈ news, p.1 ≠ e)
    (hc : clsIn K 103 = some cd) (hm : cd.mro = [.ref 103, .ref 90, .type "Exception", .type "BaseException", .type "object"]) (hdct : cd.hasDict = true) (ha : findIn K (.ref 103) name = some none)
    (h : ∀ dm h', Fr h₀ L h' m → News h₀ L h' ((e, exc0 (some dm) t) :: (dm, dictOf [⟨PyData.keyHash w.params name, .str name s.toks, v⟩] 1) :: news) → R (.ok (.ret .none)) { s with heap := h', toks := s.toks + 1 }) :
    codeAny (model prog w) A (.call (.builtin "object.__setattr__") ⟨[.ref e, .str name tk, v], []⟩) R s := by
  have SF := PySem.F.store_object
  have X := X₀.keeps F.keep
  have hx := (N _ (.head _)).1
  have ht : Looks (model prog w) s.heap (typeOf (.ref e)) (.ref 103) := (Looks.ld hx).andThen .now
  have ne : cd.mro.isEmpty = false := by rw [hm]; rfl
  have sub : Looks (model prog w) s.heap (isInstance (.ref e) (.type "object")) true := ht.andThen (looks_mroIn X (by unfold mroIn; rw [hc, Option.bind_some, if_neg (by rw [ne]; decide), hm]; rfl))
  refine codeAny_call_builtin SF.slot.plain SF.entry (@check_slot (model prog w) _ _ s "object.__setattr__" "object" "__setattr__" (.ref e) [.str name tk, v] [] _ SF.kind SF.split sub (SF.args (.ref e) (.str name tk) v) ?_)
  have hm' : Looks (model prog w) s.heap (mroOf (.ref 103)) cd.mro := (looks_clsIn X hc).andThen .now
  have L3 : Looks (model prog w) s.heap (storeTaker? none) none := .now
  rw [osa_eq, refuse_eq]
  refine wpAny_bind (wpAny_bind (ht.here (wpAny_bind (hm'.here ?_))))
  rw [hm, refuseLoop_ref, refuseLoop_ref, PySem.F.store_Exception.passes (.ref e)]
  refine wpAny_pure (wpAny_bind (ht.here (wpAny_bind ((looks_findIn X ha).here (wpAny_bind (L3.here ?_))))))
  show wpAny _ _ (storeInOwnDict (.ref e) (.ref 103) (.str name tk) name v false) _ _ _
  refine wpAny_bind (wpAny_pure (wpAny_bind (wpAny_bind (wpAny_loadPart hx (wpAny_bind ((looks_clsIn X hc).here ?_))))))
  rw [hdct]
  obtain ⟨hh, gg, dd, tt, os⟩ := s
  dsimp only at hx N F ⊢
  have hx₁ : (hh.push { cls := .type "dict", data := .dict #[] }).get? e = some (exc0 none t) := Heap.get?_push_of_some _ hx
  have hxs : e ≠ hh.objs.size := Nat.ne_of_lt (Heap.lt_size hx)
  refine wpAny_bind (wpAny_alloc' ?_)
  refine wpAny_bind (wpAny_update' hx₁ ?_)
  refine wpAny_pure ?_
  have F1 := F.push { cls := .type "dict", data := .dict #[] }
  have N1 := N.push F { cls := .type "dict", data := .dict #[] }
  obtain ⟨F2, N2⟩ := news_upd (d := e) (o := exc0 none t) (o' := exc0 (some hh.objs.size) t) (pre := [(hh.objs.size, { cls := .type "dict", data := .dict #[] })]) (post := news) (f := fun o => { o with dict := some hh.objs.size }) F1 N1 (by intro p hp; rw [List.mem_singleton.mp hp]; exact hxs.symm) hne rfl rfl
  have D := (N2 (hh.objs.size, { cls := .type "dict", data := .dict #[] }) (.head _)).1
  refine wpAny_bind (wpAny_pure (wpAny_bind ?_))
  unfold nsSet
  refine wpAny_bind (wpAny_bind (wpAny_askSetting (wpAny_pure (wpAny_bind (wpAny_mkText (wpAny_bind (wpAny_loadPart D ?_)))))))
  dsimp only
  have c : (!(#[] : Array DictEntry).any (·.key.isStr name) && (#[] : Array DictEntry).any (·.refKey)) = false := by simp
  rw [aRefKeyMayBeTheName_at, c]
  have nl : ∀ p ∈ (e, exc0 (some hh.objs.size) t) :: news, p.1 ≠ hh.objs.size := by
    intro p hp
    rcases List.mem_cons.mp hp with rfl | hp
    · exact hxs
    · exact Nat.ne_of_lt (Heap.lt_size (N p (.tail _ hp)).1)
  obtain ⟨F3, N3⟩ := news_upd (d := hh.objs.size) (o := { cls := .type "dict", data := .dict #[] }) (o' := dictOf [⟨PyData.keyHash w.params name, .str name tt, v⟩] 1) (pre := []) (post := (e, exc0 (some hh.objs.size) t) :: news) (f := Obj.putName name (PyData.keyHash w.params name) (.str name tt) v) F2 N2 (fun p hp => nomatch hp) nl (putName_dict name _ _ v [] 0) rfl
  refine wpAny_updatePart D ?_
  have D' := (N3 (hh.objs.size, dictOf [⟨PyData.keyHash w.params name, .str name tt, v⟩] 1) (.head _)).1
  refine wpAny_bind (wpAny_lookBehind D' (pastItsLine_dict (by rw [List.size_toArray, sizeLine_eq]; show 1 ≤ 16777216 + 1; decide)) ?_)
  refine wpAny_pure (h hh.objs.size _ F3 (fun p hp => N3 p ?_))
  simp only [List.nil_append, List.mem_cons] at hp ⊢
  rcases hp with q | q | q
  · exact .inr (.inl q)
  · exact .inl q
  · exact .inr (.inr q)
theorem set_exc {cd : ClassData} {Q : Unit → Shared → Prop} (F : Fr h₀ L s.heap m) (X₀ : K.In h₀) (N : News h₀ L s.heap ((e, exc0 none t) :: news)) (hne : ∀ p ∈ news, p.1 ≠ e)
    (hs : findIn K (.ref 103) "__setattr__" = some (some (.builtin "object.__setattr__"))) (hc : clsIn K 103 = some cd) (hm : cd.mro = [.ref 103, .ref 90, .type "Exception", .type "BaseException", .type "object"]) (hdct : cd.hasDict = true) (ha : findIn K (.ref 103) name = some none)
    (h : ∀ dm h', Fr h₀ L h' m → News h₀ L h' ((e, exc0 (some dm) t) :: (dm, dictOf [⟨PyData.keyHash w.params name, .str name (s.toks + 1), v⟩] 1) :: news) → Q () { s with heap := h', toks := s.toks + 2 }) :
    wpAny (model prog w) A (setAttr (.ref e) name v) Q E s :=
  set_plain (ox := exc0 none t) (od := none) (C := 103) (X₀.keeps F.keep) ⟨(N _ (.head _)).1, rfl, rfl, trivial⟩ hs
    (osa_exc (s := { s with toks := s.toks + 1 }) F X₀ N hne hc hm hdct ha fun dm h' F' N' => h dm h' F' N')
end
section
variable {prog : Program} {w : World} {A : Around} {E : Value → Shared → Prop} {s : Shared} {K : Frag} {e t L : Addr} {h₀ : Heap} {m : Str → Option Value} {news : List (Addr × Obj)} {Q : Value → Shared → Prop}
variable {nm q : Str} {N : Addr} {bs : List Value} {hdct : Bool} {sn : List Str} {sub : List Value} {ab : Bool} {col : Option Bool} {dd : Option Addr} {k0 k1 k2 k3 k5 : Option Value}
theorem init_K {rest : List Value} (F : Fr h₀ L s.heap m) (X₀ : K.In h₀) (Nw : News h₀ L s.heap ((e, exc0 none t) :: news)) (hne : ∀ p ∈ news, p.1 ≠ e)
    (hC : K.lookup 103 = some (excClassObj nm q 103 N bs [.ref 90, .type "Exception", .type "BaseException", .type "object"] hdct sn sub ab col dd k0 k1 k2 k3 k5 "Exception.__new__"))
    (h : ∀ t' h', Fr h₀ L h' m → News h₀ L h' ((e, exc0 none t') :: news) → Q .none { s with heap := h' }) (hrest : rest.length ≤ sizeLine := by size_fits) :
    wpAny (model prog w) A (call (.builtin "Exception.__init__") (.ref e :: rest)) Q E s := by
  have X := X₀.keeps F.keep
  have hx := (Nw _ (.head _)).1
  obtain ⟨hh, gg, dd', tt, os⟩ := s
  dsimp only at hx Nw F X ⊢
  refine init_call PySem.F.excBase_Exception (by decide) (X _ _ hC) hx ?_ hrest
  obtain ⟨F2, N2⟩ := news_upd (d := e) (o := exc0 none t) (o' := exc0 none hh.objs.size) (pre := [(hh.objs.size, { cls := .type "tuple", data := .seq rest.toArray })]) (post := news) (f := Obj.mapFields (·.setIfInBounds 0 (.ref hh.objs.size))) (F.push { cls := .type "tuple", data := .seq rest.toArray }) (Nw.push F { cls := .type "tuple", data := .seq rest.toArray })
    (by intro p hp; rw [List.mem_singleton.mp hp]; exact (Nat.ne_of_lt (Heap.lt_size hx)).symm) hne rfl rfl
  exact h _ _ F2 (fun p hp => N2 p (List.mem_append_right _ hp))
end
theorem exc_fin {e dm t : Addr} {h1 : Int} {k1 tm : Tok} {msg : Str} {news : List (Addr × Obj)} {h₀ : Heap} {L : Addr} {m : Str → Option Value} {s : Shared} {Q : Value → Shared → Prop} {h' : Heap} {tk : Nat}
    (hret : ∀ y : Ek, y.e = e → Ret h₀ L m s Q .none ((y.e, excO y) :: (y.dm, msgO y.h1 y.k1 y.tm msg) :: news)) (F : Fr h₀ L h' m) (N : News h₀ L h' ((e, exc0 (some dm) t) :: (dm, dictOf [⟨h1, .str (Str.ofString "message") k1, .str msg tm⟩] 1) :: news)) : Q .none { s with heap := h', toks := tk } :=
  hret ⟨h1, k1, tm, e, dm, t, #[]⟩ rfl h' tk F N
theorem hk32 : True := by
  k_with "mine call builtin:Exception.__init__" => ((k_here; k_dflt (refine' init_K ?F ?X ?N ?ne ?C ?_ ?z; (case F => k_asm); (case X => k_asm); (case N => k_asm); (case ne => assumption); (case C => k_is); (case z => size_fits)); intro t'_q h'_q F'_q N'_q))
  exact True.intro
theorem hk33 : True := by
  k_with "mine setAttr ref" => ((k_here; k_dflt (refine' set_exc ?F ?X ?N ?ne ?s ?c ?m ?d ?a ?_; (case F => k_asm); (case X => k_asm); (case N => k_asm); (case ne => assumption); (case s => k_is); (case c => k_is); (case m => rfl); (case d => rfl); (case a => k_is)); intro dm'_q h'_q F'_q N'_q))
  exact True.intro
theorem exc_init (w : World) (e t : Addr) (msg : Str) (tk : Tok) (news : List (Addr × Obj)) (hne : ∀ p ∈ news, p.1 ≠ e) :
    Con w 1 30 87 [.ref e, .str msg tk] ((e, exc0 none t) :: news)
      (fun R => ∀ y : Ek, y.e = e → R .none ((y.e, excO y) :: (y.dm, msgO y.h1 y.k1 y.tm msg) :: news)) (fun _ => True) := by
  (unfold Con; intro mean mg mb dp un gd cn cs a ccd cl outer A₀ base h₀ L m s Q E B F X N T hk hd hu hret hex)
  (refine wpAny_call ?_; k_dflt (refine' code_def ?k1 ?k2 ?k3 ?k4 ?k5 ?kA ?kF ?kK ?k6 ?k7 ?k8 ?k9 ?kB ?_ ?c2 ?c3 ?c4 ?c5; (case kA => exact rfl); (case kF => exact rfl); (case kK => assumption); (case k1 => k_asm); (case k2 => k_asm); (case k3 => k_asm); (case k4 => first | k_asm | exact drop1 (by k_asm) | exact drop2 (by k_asm)); (case k5 => k_asm); (case k6 => k_is); (case k7 => k_is); (case k8 => ktr_room); (case k9 => first | exact BindsTo.of_eq rfl | exact binds_K (by k_in) rfl (by k_is) rfl rfl rfl); (case c5 => decide); (case kB => exact locs rfl); (case c2 => exact rfl); (case c3 => exact rfl); (case c4 => exact rfl); k_whole; intro g' L' h' FG' F' N' B' X' T'; (try dsimp only); (try k_lift B'); (try k_fold)))
  k_steps
  exact exc_fin hret (by k_asm) (by k_asm)
end

-- X4
theorem hk41 : True := by
  k_with_none
  exact True.intro
theorem hk35 : True := by
  k_with "mine call ref" => ((k_here; (k_dflt (show wpAny _ _ (call (Value.ref 52) _) _ _ _)); k_dflt (refine' useU (C := is_space_c _ _ _ _ _ (by first | assumption | exact rfl)) (hp := ?_)); intro h'_q tk'_q F'_q N'_q))
  exact True.intro
theorem hk36 : True := by
  k_with "mine call ref" => ((k_here; (k_dflt (show wpAny _ _ (call (Value.ref 66) _) _ _ _)); k_dflt (refine' useU (C := is_name_start_c _ _ _ _ _ (by first | assumption | exact Sf.head (by assumption)) (by first | assumption | exact rfl)) (hp := ?_)); intro h'_q tk'_q F'_q N'_q))
  exact True.intro
theorem hk37 : True := by
  k_with "mine call ref" => ((k_here; (k_dflt (show wpAny _ _ (call (Value.ref 73) _) _ _ _)); k_dflt (refine' useU (C := is_name_char_c _ _ _ _ _ (by first | assumption | exact Sf.head (by assumption)) (by first | assumption | exact rfl)) (hp := ?_)); intro h'_q tk'_q F'_q N'_q))
  exact True.intro
theorem hk38 : True := by
  k_with "mine k_all" => (assumption)
  exact True.intro
theorem hk39 : True := by
  k_with "mine k_room" => (ktr_room)
  exact True.intro
theorem hk40 : True := by
  k_with "mine k_units" => (ktr_units)
  exact True.intro

theorem room {dp un : Nat} {gd : Option (List Code)} {cn : Str} {cs : Scope} {L a : Addr} {ccd : Value} {cl : List (Str × Addr)} {outer : List Env} {rest : List Value} :
    (ktrTop dp un gd cn cs L a ccd cl outer).under (.builtin "type.__call__" ⟨.ref 103 :: rest, []⟩) = ktrTop (dp + (Code.builtin "type.__call__" ⟨.ref 103 :: rest, []⟩).weight) (un + (Code.builtin "type.__call__" ⟨.ref 103 :: rest, []⟩).cUnits) (pushGuards (Code.builtin "type.__call__" ⟨.ref 103 :: rest, []⟩).guards gd) cn cs L a ccd cl outer := rfl
theorem fault_c (w : World) (msg : Str) (tk : Tok) (news : List (Addr × Obj)) :
    ConE w 3 60 103 [.str msg tk] news
      (fun R => ∀ y : Ek, (∀ p ∈ news, p.1 ≠ y.e) → R (.ref y.e) ((y.e, excO y) :: (y.dm, msgO y.h1 y.k1 y.tm msg) :: news)) (fun _ => True) := by
  (unfold ConE; intro mean mg mb dp un gd cn cs a ccd cl outer A₀ base h₀ L m s Q E B F X N T hk hd hu hret hex)
  have X' := X.keeps F.keep
  obtain ⟨hh, gg, dd, tt, os⟩ := s
  dsimp only at F N X' ⊢
  have F1 := F.push { cls := .type "tuple", data := .seq [Value.str msg tk].toArray }
  have N1 := N.push F { cls := .type "tuple", data := .seq [Value.str msg tk].toArray }
  have F2 := F1.push (exc0 none hh.objs.size)
  have N2 := N1.push F1 (exc0 none hh.objs.size)
  rw [Heap.size_push] at N2
  have hlt : ∀ p ∈ news, p.1 < hh.objs.size := fun p hp => Heap.lt_size (N p hp).1
  have hne : ∀ p ∈ news, p.1 ≠ hh.objs.size + 1 := fun p hp => Nat.ne_of_lt (Nat.lt_succ_of_lt (hlt p hp))
  refine make_call PySem.F.excBase_Exception (bm := [.ref 90, .type "Exception", .type "BaseException", .type "object"]) (by decide) (by decide) (by decide) (rest := [.str msg tk]) (fI := 87) (X' 103 _ (by k_is)) (fun h' up => looks_findIn (X'.keeps up) (by k_is)) (X' 87 _ (by k_is)) rfl ?_ (by size_fits)
  rw [room]
  refine use (exc_init w (hh.objs.size + 1) hh.objs.size msg tk news hne) B F2 X (fun p hp => N2 p ?_) T hk ?_ ?_ ?_ trivial
  · rcases List.mem_cons.mp hp with rfl | hp
    · exact .head _
    · exact .tail _ (.tail _ hp)
  · have : (Code.builtin "type.__call__" ⟨[Value.ref 103, .str msg tk], []⟩).weight = 1 := by rfl
    rw [this]; omega
  · have : (Code.builtin "type.__call__" ⟨[Value.ref 103, .str msg tk], []⟩).cUnits ≤ 20 := Nat.le_of_ble_eq_true rfl
    omega
  · intro y hy h' tk' F' N'
    refine ⟨rfl, ?_⟩
    rw [← hy]
    exact hret y (fun p hp => by rw [hy]; exact hne p hp) h' tk' F' N'

-- Y0
abbrev frs (l : List Env) : List Addr := l.filterMap (·.frame)
section
variable {base h₀ g g₁ h : Heap} {outer : List Env} {A₀ : Around} {L L' : Addr} {m m' : Str → Option Value} {news : List (Addr × Obj)}
theorem turn_below (K : Below A₀ base outer h₀) {h₁ : Heap} (t : KtsTurn (frs outer) h₀ h₁) : Below A₀ base outer h₁ := by
  refine ⟨K.stack, fun b o e => t.other b o (K.stays b o e) fun hm => ?_, K.frames.of_keeps fun b o hb _ => ?_⟩
  · rw [(K.frames.mem hm).1] at e; cases e
  · obtain ⟨sl, hs⟩ := t.up hb
    exact ⟨_, hs, rfl⟩
theorem turn_nil {h₁ : Heap} (t : KtsTurn [] h₀ h₁) (F : Fr h₁ L h m) : Fr h₀ L h m :=
  ⟨F.ns, fun b o e => F.keep b o (t.other b o e (fun q => nomatch q)), by rw [← t.size]; exact F.above⟩
theorem turn_news {h₁ : Heap} (t : KtsTurn [] h₀ h₁) (N : News h₁ L h news) : News h₀ L h news := fun p hp => by
  refine ⟨(N p hp).1, (N p hp).2.1, ?_⟩
  cases q : h₀.get? p.1 with
  | none => rfl
  | some o => have := (N p hp).2.2; rw [t.other _ _ q (fun q => nomatch q)] at this; cases this
/-- the ground, turned to what stands now -/
theorem turn_to (K : Below A₀ base outer h₀) (up : ∀ b o, h₀.get? b = some o → ∃ sl, h.get? b = some { o with slots := sl }) (eq : ∀ b o, h₀.get? b = some o → b ∉ frs outer → h.get? b = some o) :
    ∃ h₁, KtsTurn (frs outer) h₀ h₁ ∧ ∀ b o, h₁.get? b = some o → h.get? b = some o :=
  ⟨_, kts_turn_at (fs := frs outer) (g := h₀) (h := h) (fun b hb => let ⟨_, o, ho, _⟩ := K.frames.mem hb; ⟨o, ho⟩) eq (fun b o e _ => up b o e)⟩
def LeaveT (env : Env) (outer : List Env) (h₀ : Heap) (L : Addr) (m : Str → Option Value) (g : Heap) (R : Result → Shared → Prop) (v : Value) (s' : Shared) : Prop :=
  ∃ g₁ L' m' news', KtsTurn (frs (env :: outer)) g g₁ ∧ Fr g₁ L' s'.heap m' ∧ News g₁ L' s'.heap news' ∧ (∀ h₁, KtsTurn (frs outer) h₀ h₁ → Fr h₁ L s'.heap m → News h₁ L s'.heap news' → R (.ok (.ret v)) s')
theorem leave_T {env : Env} {R : Result → Shared → Prop} {v : Value} {s' : Shared} (B : Below A₀ base outer h₀) (hf : env.frame = some L) (hL : h₀.get? L = none) (FG : Fr h₀ L g m) (st : h₀.StaysIn g) (hl : LeaveT env outer h₀ L m g R v s') : R (.ok (.ret v)) s' := by
  obtain ⟨g₁, L', m', news', t, F', N', k⟩ := hl
  have nf : ∀ b o, h₀.get? b = some o → b ∉ frs outer → b ∉ frs (env :: outer) := fun b o e n q => by
    obtain ⟨x, hx, hfx⟩ := List.mem_filterMap.mp q
    rcases List.mem_cons.mp hx with rfl | hx
    · have : L = b := Option.some.inj (hf.symm.trans hfx)
      rw [← this, hL] at e; cases e
    · exact n (List.mem_filterMap.mpr ⟨x, hx, hfx⟩)
  obtain ⟨h₁, t₁, sub⟩ := turn_to (h := s'.heap) B (fun b o e => by
      obtain ⟨sl, hs⟩ := t.up (st b o e)
      exact ⟨sl, F'.keep _ _ hs⟩) (fun b o e n => F'.keep _ _ (t.other b o (st b o e) (nf b o e n)))
  obtain ⟨oL, es, ep, hgL, hd, hr⟩ := FG.ns
  obtain ⟨sl, hg₁L⟩ := t.up hgL
  refine k h₁ t₁ ⟨⟨_, es, ep, F'.keep _ _ hg₁L, hd, hr⟩, sub, by rw [t₁.size]; exact FG.above⟩ fun p hp => ⟨(N' p hp).1, fun q => ?_, ?_⟩
  · have := (N' p hp).2.2; rw [q, hg₁L] at this; cases this
  · cases q : h₁.get? p.1 with
    | none => rfl
    | some o =>
      cases q0 : h₀.get? p.1 with
      | none => rw [t₁.none_ _ q0] at q; cases q
      | some o' =>
        obtain ⟨sl', hs'⟩ := t.up (st _ _ q0)
        have := (N' p hp).2.2; rw [hs'] at this; cases this
end
section
variable {prog : Program} {w : World} {A₀ A : Around} {s : Shared} {K : Frag} {L : Addr} {h₀ base : Heap} {m mg mb : Str → Option Value} {news : List (Addr × Obj)} {p : Program} {loose : List Str} {mean : ExcName → Option Value}
theorem code_defT {env : Env} {outer : List Env} {R : Result → Shared → Prop} {name qual : Str} {params : Arguments} {body : List Stmt} {scope : Scope} {dV kV doc pm cdv ct oc : Value} {an od : Option Addr} {osl : Array (Option Value)} {f : Addr} {args : Args} {binds : List (Str × Value)}
    (B : Below A₀ base outer h₀) (F : Fr h₀ L s.heap m) (X₀ : K.In h₀) (N : News h₀ L s.heap news) (T : Top p loose mean mg mb h₀) (hA : A.frames = some (env :: outer)) (hf : env.frame = some L) (hke : env.scope.kind = .function)
    (ho : K.lookup f = some ⟨oc, od, .func (fnOf name qual params body scope dV kV doc pm an cdv ct), osl⟩) (hcd : codeIn K cdv qual = true) (hroom : A.depth < recursionLimit)
    (hbind : BindsTo s (fnOf name qual params body scope dV kV doc pm an cdv ct) args binds) (hloc : ∀ y ∈ binds, scope.names.lookup y.1 = some .local)
    (h : ∀ g L' h₁, Fr h₀ L g m → Fr g L' h₁ (fun y => binds.reverse.lookup y) → News g L' h₁ news → Below A base (env :: outer) g → K.In g → Top p loose mean mg mb g →
      wpAny (model prog w) (A.deeper (envOf qual scope L' f cdv)) (execs body (envOf qual scope L' f cdv))
        (fun fl s' => LeaveT env outer h₀ L m g R (match fl with | .ret v => v | _ => .none) s')
        (fun e s' => wpAny (model prog w) (A.deeper (envOf qual scope L' f cdv)) (leaving (envOf qual scope L' f cdv) e) (fun _ s'' => R (.error e) s'') (fun e' s'' => R (.error e') s'') s')
        { s with heap := h₁, toks := s.toks + binds.length })
    (hco : scope.isCoroutine = false) (hgen : scope.isGenerator = false) (hk : scope.kind = .function)
    (hcell : ∀ x ∈ scope.names, x.2 ≠ .cell) : codeAny (model prog w) A (.call (.ref f) args) R s := by
  obtain ⟨FG, BG, st, _⟩ := groundX (R := R) B F N hA hf hke
  have hL : h₀.get? L = none := by
    cases q : h₀.get? L with
    | none => rfl
    | some o => exact absurd (Nat.lt_of_lt_of_le (Heap.lt_size q) F.above) (Nat.lt_irrefl _)
  refine codeAny_call_def (fd := fnOf name qual params body scope dV kV doc pm an cdv ct) (body := body) (binds := binds) hroom ((X₀.keeps F.keep) _ _ ho) rfl (T.nolimit.keeps F.keep) (codeRec_of (X₀.keeps F.keep) hcd) rfl hbind hcell hloc (fun h₁ hns hk₁ => ?_) hco hgen hk
  exact wpAny_mono (h _ s.heap.objs.size h₁ FG ⟨hns, fun b o e => hk₁ b o (of_hideAll _ e), Nat.le_of_eq (hideAll_size _ _)⟩
    (fun p hp => ⟨hk₁ _ _ (N p hp).1, Nat.ne_of_lt (Heap.lt_size (N p hp).1), hideAll_none _ (List.mem_map_of_mem hp)⟩) BG (X₀.keeps st) (T.keeps st)) (fun fl s' hl => leave_T B hf hL FG st hl) fun _ _ y => y
end
abbrev RetT (w : World) (mean : ExcName → Option Value) (mg mb : Str → Option Value) (A₀ : Around) (base h₀ : Heap) (outer : List Env) (L : Addr) (m : Str → Option Value) (s : Shared) (Q : Value → Shared → Prop) (v : Value) (news : List (Addr × Obj)) : Prop :=
  ∀ (h₁ h' : Heap) (tk' : Nat), KtsTurn (frs outer) h₀ h₁ → Below A₀ base outer h₁ → (KV w.params).In h₁ → Top VV (looseW VV []) mean mg mb h₁ → Fr h₁ L h' m → News h₁ L h' news → Q v { s with heap := h', toks := tk' }
/-- a contract of a def behind which the ground may stand turned -/
abbrev ConT (w : World) (d u : Nat) (f : Addr) (vs : List Value) (news : List (Addr × Obj)) (post : (Value → List (Addr × Obj) → Prop) → Prop) : Prop :=
  ∀ (mean : ExcName → Option Value) (mg mb : Str → Option Value) (dp un : Nat) (gd : Option (List Code)) (cn : Str) (cs : Scope) (a : Addr) (ccd : Value) (cl : List (Str × Addr)) (outer : List Env) (A₀ : Around) (base h₀ : Heap) (L : Addr) (m : Str → Option Value) (s : Shared) (Q E : Value → Shared → Prop),
    Below A₀ base outer h₀ → Fr h₀ L s.heap m → (KV w.params).In h₀ → News h₀ L s.heap news → Top VV (looseW VV []) mean mg mb h₀ → (KV w.params).In base → Top VV (looseW VV []) mean mg mb base → cs.kind = .function → dp + d < recursionLimit → un + u < cLine →
    (post (RetT w mean mg mb A₀ base h₀ outer L m s Q)) →
      wpAny (model PySem.Challenge.pw_xw0211_01 w) (ktrTop dp un gd cn cs L a ccd cl outer) (call (.ref f) vs) Q E s
theorem useT {w : World} {d u : Nat} {f : Addr} {vs : List Value} {news : List (Addr × Obj)} {post : (Value → List (Addr × Obj) → Prop) → Prop}
    {mean : ExcName → Option Value} {mg mb : Str → Option Value} {dp un : Nat} {gd : Option (List Code)} {cn : Str} {cs : Scope} {a : Addr} {ccd : Value} {cl : List (Str × Addr)} {outer : List Env} {A₀ : Around} {base h₀ : Heap} {L : Addr} {m : Str → Option Value} {s : Shared} {Q E : Value → Shared → Prop}
    (C : ConT w d u f vs news post) (B : Below A₀ base outer h₀) (F : Fr h₀ L s.heap m) (X : (KV w.params).In h₀) (N : News h₀ L s.heap news) (T : Top VV (looseW VV []) mean mg mb h₀) (Xb : (KV w.params).In base) (Tb : Top VV (looseW VV []) mean mg mb base) (hk : cs.kind = .function) (hdp : dp + d < recursionLimit) (hun : un + u < cLine)
    (hp : post (RetT w mean mg mb A₀ base h₀ outer L m s Q)) :
    wpAny (model PySem.Challenge.pw_xw0211_01 w) (ktrTop dp un gd cn cs L a ccd cl outer) (call (.ref f) vs) Q E s := C mean mg mb dp un gd cn cs a ccd cl outer A₀ base h₀ L m s Q E B F X N T Xb Tb hk hdp hun hp

-- Y1
theorem nsAt {h h' : Heap} {a : Addr} {m : Str → Option Value} (hn : h.Ns a m) (up : ∀ o, h.get? a = some o → (∀ vs, o.data ≠ .fields vs) → ∃ sl, h'.get? a = some { o with slots := sl }) : h'.Ns a m := by
  obtain ⟨o, es, ep, ho, hd, r⟩ := hn
  obtain ⟨sl, hs⟩ := up o ho (fun vs q => by rw [hd] at q; cases q)
  exact ⟨_, es, ep, hs, hd, r⟩
section
variable {M : Model} {A : Around} {E : Value → Shared → Prop} {s' : Shared} {base g : Heap} {outer : List Env} {L a e : Addr} {m : Str → Option Value} {name : Str} {scope : Scope} {cd : Value} {Q : Unit → Shared → Prop} {rc : List (Addr × Obj)} {msg : Str} {l : List Env}
/-- Fly, noted once more, the frame not left -/
theorem fly_keep {h h' : Heap} {env : Env} {oe : Obj} {vs : Array Value} {dm T : Addr} {h1 : Int} {k1 tm : Tok} (hN : Noted (env :: outer) e oe vs h h' T)
    (up : ∀ b o, g.get? b = some o → ∃ sl, h.get? b = some { o with slots := sl }) (eq : ∀ b o, g.get? b = some o → b ∉ (env :: outer).filterMap (·.frame) → h.get? b = some o)
    (led : ∀ p ∈ rc, h.get? p.1 = some p.2 ∧ g.get? p.1 = none ∧ p.1 ∉ (env :: outer).filterMap (·.frame) ∧ p.1 ≠ e) (ff : h.FunFrames base (env :: outer))
    (he : h.get? e = some oe) (hc : oe.cls = .ref 103) (hdi : oe.dict = some dm) (hd : oe.data = .fields vs) (hsz : 1 < vs.size) (hdm : h.get? dm = some (msgO h1 k1 tm msg)) (ge : g.get? e = none) (gd : g.get? dm = none) (fd : dm ∉ (env :: outer).filterMap (·.frame)) (hed : dm ≠ e) :
    Fly base g rc (env :: outer) e msg h' := by
  obtain ⟨oT, ts, hT, hTd, hT3⟩ := hN.tb
  have gne : ∀ {b o}, g.get? b = some o → b ≠ e := fun q z => by rw [z, ge] at q; cases q
  refine ⟨fun b o q => ?_, fun b o q n => hN.other b o (gne q) n (eq b o q n), fun p hp => ?_, ?_, ?_⟩
  · obtain ⟨sl, hs⟩ := up b o q
    obtain ⟨sl', hs'⟩ := hN.slots b _ (gne q) hs
    exact ⟨sl', hs'⟩
  · obtain ⟨q1, q2, q3, q4⟩ := led p hp
    exact ⟨hN.other _ _ q4 q3 q1, q2, q3⟩
  · exact ff.of_keeps fun b o hb hnf => by
      have hbe : b ≠ e := fun z => by rw [z, he] at hb; cases hb; exact hnf vs hd
      obtain ⟨sl, hs⟩ := hN.slots b o hbe hb
      exact ⟨_, hs, rfl⟩
  · have hTe : T ≠ e := Ne.symm (hN.new e oe he)
    refine ⟨_, _, T, oT, ts, dm, h1, k1, tm, hN.exc, (Obj.cls_mapFields _ _).trans hc, ?_, Obj.data_mapFields hd _, by simp [hsz], hTe, hT, hTd, hT3, hN.other dm _ hed fd hdm, ge, ?_, gd, fd, fun p hp => ⟨(led p hp).2.2.2, hN.new _ _ (led p hp).1⟩⟩
    · obtain ⟨c', d', dt, sl⟩ := oe
      cases dt <;> first | exact hdi | (cases hd; exact hdi)
    · cases q : g.get? T with
      | none => rfl
      | some o => obtain ⟨sl, hs⟩ := up T o q; exact absurd rfl (hN.new T _ hs)
theorem note_keep {env : Env} (hA : A.frames = some (env :: outer)) (hf : env.frame = some L) (R : Fly base g rc (env :: outer) e msg s'.heap) (hn : s'.heap.Ns L m)
    (hQ : ∀ h', Fly base g rc (env :: outer) e msg h' → h'.Ns L m → Q () { s' with heap := h' }) :
    wpAny M A (noteFrame (.ref e) env) (fun _ s₂ => wpAny M A (setFlight (.ref e) none) Q E s₂) E s' := by
  obtain ⟨oe, vs, T, oT, ts, dm, h1, k1, tm, a1, a2, a3, a4, a5, a6, a7, a8, a9, a10, b1, b2, b3, b4, b5⟩ := R.tr
  have hsz : 1 < vs.size := (Array.getElem?_eq_some_iff.mp a5).1
  unfold noteFrame
  simp only [hf]
  refine wpAny_bind (wpAny_field a1 a4 a5 ?_)
  rw [if_pos (show (Value.ref T != Value.none) = true from by simp)]
  refine wpAny_bind (wpAny_field a7 a8 a9 ?_)
  rw [if_neg (show ¬ ((Value.none == rawInt L) = true) from by simp [rawInt])]
  refine wpAny_bind (wpAny_setField a7 a8 (Array.getElem?_eq_some_iff.mp a9).1 ?_)
  have other : ∀ b, b ≠ T → (s'.heap.update T (Obj.mapFields (·.setIfInBounds 3 Value.none))).get? b = s'.heap.get? b := fun b hb => Heap.get?_update_other _ _ (Ne.symm hb)
  have gT : ∀ {b o}, g.get? b = some o → b ≠ T := fun q z => by rw [z, b2] at q; cases q
  have ff' : (s'.heap.update T (Obj.mapFields (·.setIfInBounds 3 Value.none))).FunFrames base (env :: outer) := R.ff.of_keeps fun b o hb hnf => ⟨o, (other b fun q => by rw [q, a7] at hb; cases hb; exact hnf ts a8).trans hb, rfl⟩
  have hdT : dm ≠ T := fun z => by rw [z, a7] at a10; cases a10; cases a8
  have hed : dm ≠ e := fun z => by rw [z, a1] at a10; cases a10; cases a4
  refine note_new (L := L) (oe := oe) hA ff' hf ((other e (Ne.symm a6)).trans a1) a4 hsz fun h' T' hN => hQ h' ?_ ?_
  · refine fly_keep hN (fun b o q => ?_) (fun b o q n => (other b (gT q)).trans (R.eq b o q n)) (fun p hp => ?_) ff' ((other e (Ne.symm a6)).trans a1) a2 a3 a4 hsz ((other dm hdT).trans a10) b1 b3 b4 hed
    · obtain ⟨sl, hs⟩ := R.up b o q
      exact ⟨sl, (other b (gT q)).trans hs⟩
    · obtain ⟨q1, q2, q3⟩ := R.led p hp
      obtain ⟨q4, q5⟩ := b5 p hp
      exact ⟨(other _ q5).trans q1, q2, q3, q4⟩
  · refine nsAt hn fun o ho hnf => ?_
    have hLe : L ≠ e := fun z => by rw [z, a1] at ho; cases ho; exact hnf _ a4
    have hLT : L ≠ T := fun z => by rw [z, a7] at ho; cases ho; exact hnf _ a8
    exact hN.slots L o hLe ((other L hLT).trans ho)
theorem fly_flight (R : Fly base g rc l e msg s'.heap) (hn : s'.heap.Ns L m) (hQ : ∀ h', Fly base g rc l e msg h' → h'.Ns L m → Q () { s' with heap := h' }) : wpAny M A (setFlight (.ref e) none) Q E s' := by
  obtain ⟨oe, vs, T, oT, ts, dm, h1, k1, tm, a1, a2, a3, a4, a5, a6, a7, a8, a9, a10, b1, b2, b3, b4, b5⟩ := R.tr
  unfold setFlight
  refine wpAny_bind (wpAny_field a1 a4 a5 ?_)
  rw [if_pos (show (Value.ref T != Value.none) = true from by simp)]
  refine wpAny_setField a7 a8 (Array.getElem?_eq_some_iff.mp a9).1 (hQ _ ?_ ?_)
  · have other : ∀ b, b ≠ T → (s'.heap.update T (Obj.mapFields (·.setIfInBounds 3 ((none : Option Addr).elim Value.none fun f => rawInt f)))).get? b = s'.heap.get? b := fun b hb => Heap.get?_update_other _ _ (Ne.symm hb)
    have gT : ∀ {b o}, g.get? b = some o → b ≠ T := fun q z => by rw [z, b2] at q; cases q
    have hdT : dm ≠ T := fun z => by rw [z, a7] at a10; cases a10; cases a8
    have hT3 := Heap.get?_update_self (Obj.mapFields (·.setIfInBounds 3 ((none : Option Addr).elim Value.none fun f => rawInt f))) a7 (Obj.isFreed_of_fields (Obj.data_mapFields a8 _))
    refine ⟨fun b o q => ?_, fun b o q n => (other b (gT q)).trans (R.eq b o q n), fun p hp => ?_, R.ff.of_keeps fun b o hb hnf => ⟨o, (other b fun q => by rw [q, a7] at hb; cases hb; exact hnf ts a8).trans hb, rfl⟩, ?_⟩
    · obtain ⟨sl, hs⟩ := R.up b o q
      exact ⟨sl, (other b (gT q)).trans hs⟩
    · obtain ⟨q1, q2, q3⟩ := R.led p hp
      exact ⟨(other _ (b5 p hp).2).trans q1, q2, q3⟩
    · refine ⟨oe, vs, T, _, _, dm, h1, k1, tm, (other e (Ne.symm a6)).trans a1, a2, a3, a4, a5, a6, hT3, Obj.data_mapFields a8 _, ?_, (other dm hdT).trans a10, b1, b2, b3, b4, b5⟩
      have := (Array.getElem?_eq_some_iff.mp a9).1
      simp [this]
  · refine nsAt hn fun o ho hnf => ⟨o.slots, ?_⟩
    have hLT : L ≠ T := fun z => by rw [z, a7] at ho; cases ho; exact hnf _ a8
    exact (Heap.get?_update_other _ _ (Ne.symm hLT)).trans ho
end
section
variable {prog : Program} {w : World} {A₀ : Around} {E : Value → Shared → Prop} {s' : Shared} {base g hx : Heap} {outer : List Env} {L a e : Addr} {m : Str → Option Value} {name : Str} {scope : Scope} {cd : Value}
  {n : Str} {b₀ : Stmt} {suite : List Stmt} {pos np : Pos} {rest : List ExceptHandler} {Q : Flow → Shared → Prop} {rc : List (Addr × Obj)} {KF : Frag} {msg : Str}
  {p : Program} {loose : List Str} {mean : ExcName → Option Value} {mg mb : Str → Option Value} {x : Str}
  {nm q : Str} {N : Addr} {bs : List Value} {hdct : Bool} {sn : List Str} {sub : List Value} {ab : Bool} {col : Option Bool} {dd : Option Addr} {k0 k1 k2 k3 k5 : Option Value} {id0 : String}
theorem caught_fault (K : Below A₀ base outer g) (F : Fr g L hx m) (Xb : KF.In base) (Tb : Top p loose mean mg mb base) (R : Fly base g rc (envOf name scope L a cd :: outer) e msg s'.heap) (hn : s'.heap.Ns L m)
    (ex : nsIn KF mainGlobals x = some (some (.ref 103)))
    (hC : KF.lookup 103 = some (excClassObj nm q 103 N bs [.ref 90, .type "Exception", .type "BaseException", .type "object"] hdct sn sub ab col dd k0 k1 k2 k3 k5 id0))
    (k : ∀ g₁ h' tk oe vs dm h1 k1 tm, KtsTurn (frs outer) g g₁ → Below A₀ base outer g₁ → KF.In g₁ → Top p loose mean mg mb g₁ → oe.cls = .ref 103 → oe.dict = some dm → oe.data = .fields vs →
      Fr g₁ L h' (fun y => if y = n then some (.ref e) else m y) → News g₁ L h' ((e, oe) :: (dm, msgO h1 k1 tm msg) :: rc) →
      wpAny (model prog w) ((A₀.deeper (envOf name scope L a cd)).mark (some (.ref e))) (execs (b₀ :: suite) (envOf name scope L a cd))
        (fun f s₄ => wpAny (model prog w) (A₀.deeper (envOf name scope L a cd)) (do bindName (envOf name scope L a cd) n .none; unbindBehindTheSuite (envOf name scope L a cd) n pos) (fun _ s₅ => Q f s₅) E s₄)
        (AsSuiteRaised (model prog w) ((A₀.deeper (envOf name scope L a cd)).mark (some (.ref e))) (envOf name scope L a cd) n pos (notedBy (model prog w) ((A₀.deeper (envOf name scope L a cd)).mark (some (.ref e))) (envOf name scope L a cd) (cameBackBy (model prog w) (A₀.deeper (envOf name scope L a cd)) (envOf name scope L a cd) E)))
        { s' with heap := h', toks := tk })
    (hk : scope.kind = .function := by rfl) (hlo : (envOf name scope L a cd).kindOf n = some .local := by rfl) (hx : (envOf name scope L a cd).kindOf x = some .globalImplicit := by rfl) (hd : (x == ("__debug__" : Str)) = false := by decide) :
    wpAny (model prog w) (A₀.deeper (envOf name scope L a cd)) (noteFrame (.ref e) (envOf name scope L a cd))
      (fun _ s₂ => wpAny (model prog w) (A₀.deeper (envOf name scope L a cd)) (setFlight (.ref e) none) (fun _ s₃ =>
        wpAny (model prog w) (A₀.deeper (envOf name scope L a cd)) (handleBy (.ref e) (envOf name scope L a cd) (.ExceptHandler (some (.Name x np)) (some n) (b₀ :: suite) pos :: rest)) Q E s₃) E s₂) E s' := by
  have gL : g.get? L = none := by
    cases q : g.get? L with
    | none => rfl
    | some o => exact absurd (Nat.lt_of_lt_of_le (Heap.lt_size q) F.above) (Nat.lt_irrefl _)
  -- the ground as it stands at a heap over which the fault flies
  have turned : ∀ {h : Heap}, Fly base g rc (envOf name scope L a cd :: outer) e msg h → h.Ns L m → ∃ g₁, KtsTurn (frs outer) g g₁ ∧ Below A₀ base outer g₁ ∧ KF.In g₁ ∧ Top p loose mean mg mb g₁ ∧ Fr g₁ L h m := by
    intro h R hn
    obtain ⟨g₁, t, sub⟩ := turn_to (h := h) K R.up (fun b o e n => R.eq b o e fun z => by
      obtain ⟨env, hx, hf⟩ := List.mem_filterMap.mp z
      rcases List.mem_cons.mp hx with rfl | hx
      · have : L = b := Option.some.inj hf
        rw [← this, gL] at e; cases e
      · exact n (List.mem_filterMap.mpr ⟨env, hx, hf⟩))
    have B₁ := turn_below K t
    exact ⟨g₁, t, B₁, Xb.keeps B₁.stays, Tb.keeps B₁.stays, hn, sub, by rw [t.size]; exact F.above⟩
  refine note_keep (L := L) (m := m) (Around.frames_deeper K.stack) rfl R hn fun h₅ R₅ hn₅ => ?_
  obtain ⟨g₅, t₅, B₅, X₅, T₅, F₅⟩ := turned R₅ hn₅
  obtain ⟨oe, vs, T', oT, ts, dm, h1, k1', tm, a1, a2, a3, a4, _⟩ := R₅.tr
  refine wpAny_handleBy_cons (codeAny_handlers_test (name_K F₅ X₅ (topRead_of T₅) ex ?_ hk hx hd)) (by intro q; cases q)
  refine wpAny_excMatches_sub_self ((X₅.keeps F₅.keep) _ _ hC) a1 a2 (by decide) (codeAny_handlers_suite_as ?_)
  refine fly_flight (L := L) (m := m) R₅ hn₅ fun h₆ R₆ hn₆ => ?_
  obtain ⟨g₆, t₆, B₆, X₆, T₆, F₆⟩ := turned R₆ hn₆
  obtain ⟨oe, vs, T', oT, ts, dm, h1, k1', tm, a1, a2, a3, a4, a5, a6, a7, a8, a9, a10, b1, b2, b3, b4, b5⟩ := R₆.tr
  have N₆ : News g₆ L h₆ ((e, oe) :: (dm, msgO h1 k1' tm msg) :: rc) := by
    intro p hp
    have no : ∀ {b : Addr}, g.get? b = none → g₆.get? b = none := fun q => t₆.none_ _ q
    have nL : ∀ {b : Addr}, b ∉ (envOf name scope L a cd :: outer).filterMap (·.frame) → b ≠ L := fun q z => q (List.mem_filterMap.mpr ⟨_, .head _, by rw [z]; rfl⟩)
    rcases List.mem_cons.mp hp with rfl | hp
    · refine ⟨a1, fun z => ?_, no b1⟩
      obtain ⟨oL, es, ep, hL, hd', _⟩ := hn₆
      have z' : L = e := z.symm
      rw [z', a1] at hL; cases hL; rw [a4] at hd'; cases hd'
    rcases List.mem_cons.mp hp with rfl | hp
    · exact ⟨a10, nL b4, no b3⟩
    · obtain ⟨q1, q2, q3⟩ := R₆.led p hp
      exact ⟨q1, nL q3, no q2⟩
  exact stN F₆ N₆ (fun h₇ F₇ N₇ => k g₆ h₇ _ oe vs dm h1 k1' tm t₆ B₆ X₆ T₆ a2 a3 a4 F₇ N₇) hk hlo
end

-- Y2
section
variable {prog : Program} {w : World} {A : Around} {E : Value → Shared → Prop} {h : Heap} {g : Array GenState} {d : Drawn} {t : Nat} {os : OsState}
variable {nm q : Str} {N : Addr} {bs : List Value} {hdct : Bool} {sn : List Str} {sub : List Value} {ab : Bool} {col : Option Bool} {dd : Option Addr} {k0 k1 k2 k3 k5 : Option Value} {newId : String} {KF : Frag} {e dm : Addr} {oe : Obj} {vs : Array Value} {h1 : Int} {k1' tm : Tok} {msg : Str}
theorem check_ga {M : Model} {nameV : Value} {Q : Unit → Shared → Prop} (hC : h.get? 103 = some (excClassObj nm q 103 N bs [.ref 90, .type "Exception", .type "BaseException", .type "object"] hdct sn sub ab col dd k0 k1 k2 k3 k5 newId))
    (hx : h.get? e = some oe) (hc : oe.cls = .ref 103) (hq : Q () ⟨h, g, d, t, os⟩) : wpAny M A (checkBuiltinCall "BaseException.__getattribute__" ⟨[.ref e, nameV], []⟩) Q E ⟨h, g, d, t, os⟩ := by
  have hk : builtinKind "BaseException.__getattribute__" = some .slot := by decide +kernel
  have hsplit : splitId "BaseException.__getattribute__" = some ("BaseException", "__getattribute__") := by decide +kernel
  have hcB : (Value.ref 103 :: [.ref 90, .type "Exception", .type "BaseException", .type "object"]).contains (.type "BaseException") = true := by decide
  have ha := PySem.F.args_bexc_ga (.ref e) nameV
  simp only [checkBuiltinCall, hk, hsplit]
  refine wpAny_bind ?_
  · unfold isInstance
    repeat (first | (with_reducible refine wpAny_loadPart_at hx ?_; rw [hc]) | (with_reducible refine wpAny_isSubtype_exc hC ?_; rw [hcB]) | wp_step)
    exact hq
theorem msg_entry {tk : Tok} {Q : Fin → Shared → Prop} (X : KF.In h) (hm : findIn KF (.ref 103) "message" = some none) (hx : h.get? e = some oe) (hc : oe.cls = .ref 103) (hdi : oe.dict = some dm) (hd : oe.data = .fields vs) (hdm : h.get? dm = some (msgO h1 k1' tm msg)) (cdh : ∃ cd, clsIn KF 103 = some cd ∧ cd.hasDict = true) (hq : Q (.done (.ret (.str msg tm))) ⟨h, g, d, t, os⟩) :
    wpAny (model prog w) A (Builtin.«object.__getattribute__» ⟨[.ref e, .str "message" tk], []⟩) Q E ⟨h, g, d, t, os⟩ := by
  obtain ⟨cd, hcd, hdct⟩ := cdh
  have tl : ∀ {A' : Around} {E' : Value → Shared → Prop} {Q' : Option Value → Shared → Prop}, Q' none ⟨h, g, d, t, os⟩ → wpAny (model prog w) A' (typeLookup (.ref 103) "message") Q' E' ⟨h, g, d, t, os⟩ := fun hq' => (looks_findIn X hm).at hq'
  have tc : ∀ {A' : Around} {E' : Value → Shared → Prop} {Q' : ClassData → Shared → Prop}, Q' cd ⟨h, g, d, t, os⟩ → wpAny (model prog w) A' (classData 103) Q' E' ⟨h, g, d, t, os⟩ := fun hq' => (looks_clsIn X hcd).at hq'
  repeat (any_goals (first | assumption | (with_reducible refine wpAny_loadPart_at hx ?_; rw [hc]) | with_reducible refine tl ?_ | with_reducible refine tc ?_ | wp_step))
  have hns : h.Ns dm (nsFind #[⟨h1, .str (Str.ofString "message") k1', .str msg tm⟩]) := ⟨_, _, _, hdm, rfl, (by
    intro en hen
    rw [List.mem_toArray, List.mem_singleton] at hen
    rw [hen]
    exact ⟨_, _, rfl⟩), fun _ => rfl⟩
  rw [hd]
  show wpAny _ _ (instanceDict e false) _ _ _
  unfold instanceDict
  refine wpAny_bind (wpAny_loadPart_at hx ?_)
  rw [hc]
  refine wpAny_bind (tc ?_)
  rw [hdct, hdi]
  refine wpAny_pure ?_
  show wpAny _ _ (nsGet dm _) _ _ _
  refine wpAny_nsGet hns ?_
  have : nsFind #[⟨h1, .str (Str.ofString "message") k1', .str msg tm⟩] (Str.ofString "message") = some (.str msg tm) := rfl
  rw [this]
  repeat (any_goals (first | assumption | wp_step))
theorem msg_call {tk : Tok} {R : Result → Shared → Prop} (X : KF.In h) (hC : h.get? 103 = some (excClassObj nm q 103 N bs [.ref 90, .type "Exception", .type "BaseException", .type "object"] hdct sn sub ab col dd k0 k1 k2 k3 k5 newId)) (hm : findIn KF (.ref 103) "message" = some none) (hx : h.get? e = some oe) (hc : oe.cls = .ref 103) (hdi : oe.dict = some dm) (hd : oe.data = .fields vs) (hdm : h.get? dm = some (msgO h1 k1' tm msg)) (cdh : ∃ cd, clsIn KF 103 = some cd ∧ cd.hasDict = true) (hq : R (.ok (.ret (.str msg tm))) ⟨h, g, d, t, os⟩) :
    codeAny (model prog w) A (.call (.builtin "BaseException.__getattribute__") ⟨[.ref e, .str "message" tk], []⟩) R ⟨h, g, d, t, os⟩ :=
  codeAny_call_builtin PySem.F.attrBase_Exception.ga.plain PySem.F.entry_bexc_ga (check_ga hC hx hc (msg_entry X hm hx hc hdi hd hdm cdh hq))
theorem msg_get {expr : Bool} {Q : Value → Shared → Prop} (X : KF.In h) (hC : h.get? 103 = some (excClassObj nm q 103 N bs [.ref 90, .type "Exception", .type "BaseException", .type "object"] hdct sn sub ab col dd k0 k1 k2 k3 k5 newId)) (hga : findIn KF (.ref 103) "__getattribute__" = some (some (.builtin "BaseException.__getattribute__"))) (hgt : findIn KF (.ref 103) "__getattr__" = some none) (hm : findIn KF (.ref 103) "message" = some none) (hx : h.get? e = some oe) (hc : oe.cls = .ref 103) (hdi : oe.dict = some dm) (hd : oe.data = .fields vs) (hdm : h.get? dm = some (msgO h1 k1' tm msg)) (cdh : ∃ cd, clsIn KF 103 = some cd ∧ cd.hasDict = true) (hq : Q (.str msg tm) ⟨h, g, d, t + 1, os⟩) :
    wpAny (model prog w) A (getAttr (.ref e) "message" expr) Q E ⟨h, g, d, t, os⟩ := by
  have f3 := PySem.F.attrBase_Exception.ga.bind (.ref e)
  have hx0 : (expr && onTheHeap (Value.builtin "BaseException.__getattribute__")) = false := by cases expr <;> rfl
  have hx2 : (Value.builtin "BaseException.__getattribute__" == Value.builtin "object.__getattribute__") = false := by decide +kernel
  have hx1 : (onTheHeap (Value.ref 103) && Value.builtin "BaseException.__getattribute__" == Value.builtin "object.__getattribute__") = false := by rw [hx2]; rfl
  have t1 : ∀ {A' : Around} {E' : Value → Shared → Prop} {Q' : Option Value → Shared → Prop}, Q' (some (.builtin "BaseException.__getattribute__")) ⟨h, g, d, t + 1, os⟩ → wpAny (model prog w) A' (typeLookup (.ref 103) "__getattribute__") Q' E' ⟨h, g, d, t + 1, os⟩ := fun hq' => (looks_findIn X hga).at hq'
  have t2 : ∀ {A' : Around} {E' : Value → Shared → Prop} {Q' : Option Value → Shared → Prop}, Q' none ⟨h, g, d, t + 1, os⟩ → wpAny (model prog w) A' (typeLookup (.ref 103) "__getattr__") Q' E' ⟨h, g, d, t + 1, os⟩ := fun hq' => (looks_findIn X hgt).at hq'
  unfold getAttr getAttrBy
  repeat (any_goals (first | assumption | (with_reducible refine wpAny_loadPart_at hx ?_; rw [hc]) | with_reducible refine t1 ?_ | with_reducible refine t2 ?_ | wp_step))
  refine msg_call X hC hm hx hc hdi hd hdm cdh ?_
  repeat (any_goals (first | assumption | wp_step))
end
theorem msg_K {prog : Program} {w : World} {A : Around} {E : Value → Shared → Prop} {s : Shared} {KF : Frag} {e dm L : Addr} {h₀ : Heap} {m : Str → Option Value} {oe : Obj} {vs : Array Value} {h1 : Int} {k1' tm : Tok} {msg : Str} {news : List (Addr × Obj)} {Q : Value → Shared → Prop} {expr : Bool}
    {nm q : Str} {N : Addr} {bs : List Value} {hdct : Bool} {sn : List Str} {sub : List Value} {ab : Bool} {col : Option Bool} {dd : Option Addr} {k0 k1 k2 k3 k5 : Option Value} {newId : String}
    (F : Fr h₀ L s.heap m) (X₀ : KF.In h₀) (Nw : News h₀ L s.heap ((e, oe) :: (dm, msgO h1 k1' tm msg) :: news)) (hc : oe.cls = .ref 103) (hdi : oe.dict = some dm) (hd : oe.data = .fields vs)
    (hC : KF.lookup 103 = some (excClassObj nm q 103 N bs [.ref 90, .type "Exception", .type "BaseException", .type "object"] hdct sn sub ab col dd k0 k1 k2 k3 k5 newId)) (hga : findIn KF (.ref 103) "__getattribute__" = some (some (.builtin "BaseException.__getattribute__"))) (hgt : findIn KF (.ref 103) "__getattr__" = some none) (hm : findIn KF (.ref 103) "message" = some none) {cd : ClassData} (hcd : clsIn KF 103 = some cd) (hcd2 : cd.hasDict = true)
    (hq : Q (.str msg tm) { s with toks := s.toks + 1 }) : wpAny (model prog w) A (getAttr (.ref e) "message" expr) Q E s := by
  have X := X₀.keeps F.keep
  have hx := (Nw _ (.head _)).1
  have hdm := (Nw _ (.tail _ (.head _))).1
  obtain ⟨hh, gg, d, tt, os⟩ := s
  exact msg_get X (X _ _ hC) hga hgt hm hx hc hdi hd hdm ⟨cd, hcd, hcd2⟩ hq

-- B1
theorem hk60 : True := by
  k_with_none
  exact True.intro
theorem hk45 : True := by
  k_with "mine call ref" => ((k_here; (k_dflt (show wpAny _ _ (call (Value.ref 52) _) _ _ _)); k_dflt (refine' useU (C := is_space_c _ _ _ _ _ (by first | assumption | exact rfl)) (hp := ?_)); intro h'_q tk'_q F'_q N'_q))
  exact True.intro
theorem hk46 : True := by
  k_with "mine call ref" => ((k_here; (k_dflt (show wpAny _ _ (call (Value.ref 66) _) _ _ _)); k_dflt (refine' useU (C := is_name_start_c _ _ _ _ _ (by first | assumption | exact Sf.head (by assumption)) (by first | assumption | exact rfl)) (hp := ?_)); intro h'_q tk'_q F'_q N'_q))
  exact True.intro
theorem hk47 : True := by
  k_with "mine call ref" => ((k_here; (k_dflt (show wpAny _ _ (call (Value.ref 73) _) _ _ _)); k_dflt (refine' useU (C := is_name_char_c _ _ _ _ _ (by first | assumption | exact Sf.head (by assumption)) (by first | assumption | exact rfl)) (hp := ?_)); intro h'_q tk'_q F'_q N'_q))
  exact True.intro
theorem hk48 : True := by
  k_with "mine k_all" => (assumption)
  exact True.intro
theorem hk49 : True := by
  k_with "mine k_room" => (ktr_room)
  exact True.intro
theorem hk50 : True := by
  k_with "mine k_units" => (ktr_units)
  exact True.intro

/-- the scanner's own dict: its keys' hashes and tokens stand as they were laid -/
structure Sc where
  h1 : Int
  h2 : Int
  h3 : Int
  k1 : Tok
  k2 : Tok
  k3 : Tok
  T : Str
  tT : Tok
  fl : Addr
theorem ne_sc : Nonempty Sc := ⟨⟨0, 0, 0, 0, 0, 0, Str.ofString "", 0, 0⟩⟩
abbrev scD (z : Sc) (n : Int) (tn : Tok) : Obj := dictOf [⟨z.h1, .str (Str.ofString "text") z.k1, .str z.T z.tT⟩, ⟨z.h2, .str (Str.ofString "at") z.k2, .int n tn⟩, ⟨z.h3, .str (Str.ofString "found") z.k3, .ref z.fl⟩] 3

theorem sign0_c (w : World) (x dx : Addr) (z : Sc) (n : Int) (tn : Tok) (r : List Nat) (rest : List (Addr × Obj)) (hs : Sf z.T n r) :
    Con w 1 8 175 [.ref x] ((x, instObj 269 dx) :: (dx, scD z n tn) :: rest)
      (fun R => ∀ t, R (.str (sgn r) t) ((x, instObj 269 dx) :: (dx, scD z n tn) :: rest)) (fun _ => True) := by
  have hT := hs.sz
  have hn := hs.nn
  (unfold Con; intro mean mg mb dp un gd cn cs a ccd cl outer A₀ base h₀ L m s Q E B F X N T hk hd hu hret hex)
  (refine wpAny_call ?_; k_dflt (refine' code_def ?k1 ?k2 ?k3 ?k4 ?k5 ?kA ?kF ?kK ?k6 ?k7 ?k8 ?k9 ?kB ?_ ?c2 ?c3 ?c4 ?c5; (case kA => exact rfl); (case kF => exact rfl); (case kK => assumption); (case k1 => k_asm); (case k2 => k_asm); (case k3 => k_asm); (case k4 => first | k_asm | exact drop1 (by k_asm) | exact drop2 (by k_asm)); (case k5 => k_asm); (case k6 => k_is); (case k7 => k_is); (case k8 => ktr_room); (case k9 => first | exact BindsTo.of_eq rfl | exact binds_K (by k_in) rfl (by k_is) rfl rfl rfl); (case c5 => decide); (case kB => exact locs rfl); (case c2 => exact rfl); (case c3 => exact rfl); (case c4 => exact rfl); k_whole; intro g' L' h' FG' F' N' B' X' T'; (try dsimp only); (try k_lift B'); (try k_fold)))
  k_steps
  all_goals (refine finS hret (by k_asm) (by k_asm) same ?_)
  · exact ((congrArg (Txt.item z.T) (Int.add_zero n)).trans (hs.sgn (by omega)))
  · exact (hs.sgn0 (by omega))
theorem sign1_c (w : World) (x dx : Addr) (z : Sc) (n : Int) (tn t1 : Tok) (r : List Nat) (rest : List (Addr × Obj)) (hs : Sf z.T n r) :
    Con w 1 8 175 [.ref x, .int 1 t1] ((x, instObj 269 dx) :: (dx, scD z n tn) :: rest)
      (fun R => ∀ t, R (.str (sgn r.tail) t) ((x, instObj 269 dx) :: (dx, scD z n tn) :: rest)) (fun _ => True) := by
  have hs1 : Sf z.T (n + 1) r.tail := by have := hs.on 1; simpa using this
  have hT := hs.sz
  have hn := hs.nn
  (unfold Con; intro mean mg mb dp un gd cn cs a ccd cl outer A₀ base h₀ L m s Q E B F X N T hk hd hu hret hex)
  (refine wpAny_call ?_; k_dflt (refine' code_def ?k1 ?k2 ?k3 ?k4 ?k5 ?kA ?kF ?kK ?k6 ?k7 ?k8 ?k9 ?kB ?_ ?c2 ?c3 ?c4 ?c5; (case kA => exact rfl); (case kF => exact rfl); (case kK => assumption); (case k1 => k_asm); (case k2 => k_asm); (case k3 => k_asm); (case k4 => first | k_asm | exact drop1 (by k_asm) | exact drop2 (by k_asm)); (case k5 => k_asm); (case k6 => k_is); (case k7 => k_is); (case k8 => ktr_room); (case k9 => first | exact BindsTo.of_eq rfl | exact binds_K (by k_in) rfl (by k_is) rfl rfl rfl); (case c5 => decide); (case kB => exact locs rfl); (case c2 => exact rfl); (case c3 => exact rfl); (case c4 => exact rfl); k_whole; intro g' L' h' FG' F' N' B' X' T'; (try dsimp only); (try k_lift B'); (try k_fold)))
  k_steps
  all_goals (refine finS hret (by k_asm) (by k_asm) same ?_)
  · exact (hs1.sgn (by omega))
  · exact (hs1.sgn0 (by omega))
theorem hk51 : True := by
  k_with "mine call ref" => ((k_here; (k_dflt (show wpAny _ _ (call (Value.ref 175) _) _ _ _)); k_dflt (refine' useU (C := sign0_c _ _ _ _ _ _ _ _ (by assumption)) (hp := ?_)); intro t'_q h'_q tk'_q F'_q N'_q))
  exact True.intro
theorem hk52 : True := by
  k_with "mine call ref" => ((k_here; (k_dflt (show wpAny _ _ (call (Value.ref 175) _) _ _ _)); k_dflt (refine' useU (C := sign1_c _ _ _ _ _ _ _ _ _ (by assumption)) (hp := ?_)); intro t'_q h'_q tk'_q F'_q N'_q))
  exact True.intro

/-- a loop's start: the walk stands here -/
def Hold (P : Prop) : Prop := P
theorem Hold.out {P : Prop} (h : Hold P) : P := h
theorem hk53 : True := by
  k_with "mine exec While" => ((k_here; (refine whl_start 0 (Hold.out ?_))))
  exact True.intro
theorem hk54 : True := by
  k_with "mine exec While Compare" => ((k_here; (refine whl_start 0 (Hold.out ?_))))
  exact True.intro
theorem hk55 : True := by
  k_with "mine exec While Compare cons nil" => ((k_here; (refine whl_start 0 (Hold.out ?_))))
  exact True.intro
theorem hk56 : True := by
  k_with "mine exec While BoolOp" => ((k_here; (refine whl_start 0 (Hold.out ?_))))
  exact True.intro
section
variable {prog : Program} {w : World} {A : Around} {E : Value → Shared → Prop} {s : Shared} {env : Env} {test : PySem.Expr} {body : List Stmt} {Q : Flow → Shared → Prop}
/-- a turn's end: the state is told anew, with a smaller measure -/
def WPost (J : Nat → Shared → Prop) (Q : Flow → Shared → Prop) (k : Nat) (f : Flow) (s : Shared) : Prop :=
  match f with
  | .next => ∃ k', k' < k ∧ J k' s
  | .cont => ∃ k', k' < k ∧ J k' s
  | .brk => Q .next s
  | .ret v => Q (.ret v) s
theorem wh_rule (J : Nat → Shared → Prop) (hE : PassesOwn (model prog w) A env E)
    (step : ∀ k s, J k s → wpAny (model prog w) A (isTrue test env (eval test env)) (fun b s₂ => WhlIf b (wpAny (model prog w) A (execs body env) (WPost J Q k) E s₂) (wpAny (model prog w) A (execs [] env) Q E s₂)) E s) :
    ∀ k s, J k s → WhlRest prog w A E env test body [] Q 0 s := by
  intro k
  induction k using Nat.strongRecOn with
  | ind k ih =>
    intro s hj
    refine whl_turn (k := 0) hE (wpAny_mono (step k s hj) (fun b s₂ h => ?_) fun _ _ e => e)
    unfold WhlIf at h ⊢
    cases b with
    | false => exact h
    | true =>
      refine wpAny_mono h (fun f s₃ h₃ => ?_) fun _ _ e => e
      cases f with
      | next => obtain ⟨k', hk', hj'⟩ := h₃; exact ih k' hk' s₃ hj'
      | cont => obtain ⟨k', hk', hj'⟩ := h₃; exact ih k' hk' s₃ hj'
      | brk => exact h₃
      | ret v => exact h₃
end

theorem sub_at {prog : Program} {w : World} {A : Around} {E : Value → Shared → Prop} {s : Shared} {value slice : PySem.Expr} {T : Str} {t u : Tok} {Q : Value → Shared → Prop} {n : Int} {c : Nat} {r : List Nat} (h : Sf T n (c :: r))
    (hq : ∀ t' k, Q (.str ⟨#[c]⟩ t') { s with toks := k })
    (hs : subscripted slice false (.str T t) (.int n u) = operate [.str T t, .int n u] (getItem (.str T t) (.int n u)) := by with_unfolding_all rfl)
    (ht : ∀ r, letTemporaryGo value (.str T t) r = pure () := by intro _; with_unfolding_all rfl) :
    wpAny (model prog w) A (subscriptTail value slice (.str T t) (.int n u)) Q E s := by
  have h1 := h.nn
  have h2 : n < (T.length : Int) := h.len.mpr (by simp)
  have h3 := h.sz
  refine item_str (fitsSsize_of (N := 9223372036854775808) (by omega) (by omega) (Int.le_refl _)) (by omega) h2 (fun _ => ?_) hs ht
  rw [h.item]
  exact hq _ _
theorem hk57 : True := by
  k_with "mine subscriptTail" => ((k_here; (with_reducible show wpAny _ _ (subscriptTail _ _ (Value.str _ _) (Value.int _ _)) _ _ _); (refine sub_at (by assumption) ?_); intro t'_q k'_q))
  exact True.intro
theorem skip_c (w : World) (x dx : Addr) (z : Sc) (n : Int) (tn : Tok) (r : List Nat) (rest : List (Addr × Obj)) (hs : Sf z.T n r) (hx : @Ne Nat x dx) (hr : ∀ p ∈ rest, p.1 ≠ dx) :
    Con w 2 16 196 [.ref x] ((x, instObj 269 dx) :: (dx, scD z n tn) :: rest)
      (fun R => ∀ t, R .none ((x, instObj 269 dx) :: (dx, scD z (n + spN r) t) :: rest)) (fun _ => True) := by
  (unfold Con; intro mean mg mb dp un gd cn cs a ccd cl outer A₀ base h₀ L m s Q E B F X N T hk hd hu hret hex)
  (refine wpAny_call ?_; k_dflt (refine' code_def ?k1 ?k2 ?k3 ?k4 ?k5 ?kA ?kF ?kK ?k6 ?k7 ?k8 ?k9 ?kB ?_ ?c2 ?c3 ?c4 ?c5; (case kA => exact rfl); (case kF => exact rfl); (case kK => assumption); (case k1 => k_asm); (case k2 => k_asm); (case k3 => k_asm); (case k4 => first | k_asm | exact drop1 (by k_asm) | exact drop2 (by k_asm)); (case k5 => k_asm); (case k6 => k_is); (case k7 => k_is); (case k8 => ktr_room); (case k9 => first | exact BindsTo.of_eq rfl | exact binds_K (by k_in) rfl (by k_is) rfl rfl rfl); (case c5 => decide); (case kB => exact locs rfl); (case c2 => exact rfl); (case c3 => exact rfl); (case c4 => exact rfl); k_whole; intro g' L' h' FG' F' N' B' X' T'))
  (revert FG' F' N' B' X' T'; revert B F X N T hk hd hu hret hex; revert mean mg mb dp un gd cn cs a ccd cl outer A₀ base h₀ L m s Q E g' L' h'; revert w x dx z n tn r rest; refine ep8_all (by repeat' (first | exact ne_world | exact ne_sc | exact ⟨({} : Shared)⟩ | exact ⟨Wd.star⟩ | refine ne_pair ?_ ?_ | exact inferInstance)) ?_; intro eP eE; refine ((?eg1 : ∀ y0 y1 y2 y3 y4 y5 y6 y7, eP y0 y1 y2 y3 y4 y5 y6 y7) _ _ _ _ _ _ _ _); intro w x dx z n tn r rest; subst eE; set_option tactic.hygienic false in intro; set_option tactic.hygienic false in intros; revert FG' F' N' B' X' T'; revert B F X N T hk hd hu hret hex; revert mean mg mb dp un gd cn cs a ccd cl outer A₀ base h₀ L m s Q E g' L' h'; refine amb_all ?_; intro eP eE; refine ((?eg2 : ∀ y0 y1 y2 y3 y4 y5 y6 y7 y8 y9 y10 y11 y12 y13 y14 y15 y16 y17 y18 y19 y20 y21 y22, eP y0 y1 y2 y3 y4 y5 y6 y7 y8 y9 y10 y11 y12 y13 y14 y15 y16 y17 y18 y19 y20 y21 y22) _ _ _ _ _ _ _ _ _ _ _ _ _ _ _ _ _ _ _ _ _ _ _); intro mean mg mb dp un gd cn cs a ccd cl outer A₀ base h₀ L m s Q E g' L' h'; subst eE; set_option tactic.hygienic false in intro; set_option tactic.hygienic false in intros; skip)
  ((try dsimp only); (try k_lift B'))
  k_steps
  unfold Hold
  refine wh_rule (J := fun k s' => ∃ n' r' t' h' tk', s' = { s with heap := h', toks := tk' } ∧ Fr g' L' h' (fun y => List.lookup y [(Str.ofString "self", Value.ref x)]) ∧ News g' L' h' ((x, instObj 269 dx) :: (dx, scD z n' t') :: rest) ∧ Sf z.T n' r' ∧ r'.length = k ∧ n' + spN r' = n + spN r) (by first | passes_own | with_unfolding_all passes_own) ?_ r.length _ ⟨n, r, tn, _, _, rfl, (by k_asm), (by k_asm), hs, rfl, rfl⟩
  clear hs
  rintro k s' ⟨n', r', t', h1, tk1, rfl, F1, N1, hs, hk1, he1⟩
  have hT := hs.sz
  have hn := hs.nn
  have hl := hs.len
  cases r' with
  | nil =>
    have hl' : ¬ n' < (z.T.length : Int) := fun q => hl.mp q rfl
    have e : n' = n + spN r := by rw [← he1]; exact (Int.add_zero n').symm
    k_steps
    refine fin (hret t') (by k_asm) (by k_asm) ?_ rfl
    rw [← e]
    exact same
  | cons c r' =>
    have hl' : n' < (z.T.length : Int) := hl.mpr (by simp)
    rw [spN_cons] at he1
    cases hsp : isSp ⟨#[c]⟩ with
    | false =>
      have e : n' = n + spN r := by rw [← he1, hsp]; exact (Int.add_zero n').symm
      k_steps
      refine fin (hret t') (by k_asm) (by k_asm) ?_ rfl
      rw [← e]
      exact same
    | true =>
      rw [hsp, if_pos rfl] at he1
      k_steps
      exact ⟨r'.length, by simp at hk1; omega, n' + 1, r', _, _, _, rfl, (by k_asm), (by k_asm), hs.tail, rfl, by rw [← he1, Int.natCast_succ]; omega⟩
theorem hk58 : True := by
  k_with "mine call ref" => ((k_here; (k_dflt (show wpAny _ _ (call (Value.ref 196) _) _ _ _)); k_dflt (refine' useU (C := skip_c _ _ _ _ _ _ _ _ (by assumption) (by first | assumption | k_ne) (by first | assumption | k_all)) (hp := ?_)); intro t'_q h'_q tk'_q F'_q N'_q))
  exact True.intro

theorem figures_c (w : World) (x dx : Addr) (z : Sc) (n : Int) (tn : Tok) (r : List Nat) (rest : List (Addr × Obj)) (hs : Sf z.T n r) (hx : @Ne Nat x dx) (hr : ∀ p ∈ rest, p.1 ≠ dx) :
    Con w 2 16 224 [.ref x] ((x, instObj 269 dx) :: (dx, scD z n tn) :: rest)
      (fun R => ∀ t, R .none ((x, instObj 269 dx) :: (dx, scD z (n + figN r) t) :: rest)) (fun _ => True) := by
  (unfold Con; intro mean mg mb dp un gd cn cs a ccd cl outer A₀ base h₀ L m s Q E B F X N T hk hd hu hret hex)
  (refine wpAny_call ?_; k_dflt (refine' code_def ?k1 ?k2 ?k3 ?k4 ?k5 ?kA ?kF ?kK ?k6 ?k7 ?k8 ?k9 ?kB ?_ ?c2 ?c3 ?c4 ?c5; (case kA => exact rfl); (case kF => exact rfl); (case kK => assumption); (case k1 => k_asm); (case k2 => k_asm); (case k3 => k_asm); (case k4 => first | k_asm | exact drop1 (by k_asm) | exact drop2 (by k_asm)); (case k5 => k_asm); (case k6 => k_is); (case k7 => k_is); (case k8 => ktr_room); (case k9 => first | exact BindsTo.of_eq rfl | exact binds_K (by k_in) rfl (by k_is) rfl rfl rfl); (case c5 => decide); (case kB => exact locs rfl); (case c2 => exact rfl); (case c3 => exact rfl); (case c4 => exact rfl); k_whole; intro g' L' h' FG' F' N' B' X' T'))
  (revert FG' F' N' B' X' T'; revert B F X N T hk hd hu hret hex; revert mean mg mb dp un gd cn cs a ccd cl outer A₀ base h₀ L m s Q E g' L' h'; revert w x dx z n tn r rest; refine ep8_all (by repeat' (first | exact ne_world | exact ne_sc | exact ⟨({} : Shared)⟩ | exact ⟨Wd.star⟩ | refine ne_pair ?_ ?_ | exact inferInstance)) ?_; intro eP eE; refine ((?eg3 : ∀ y0 y1 y2 y3 y4 y5 y6 y7, eP y0 y1 y2 y3 y4 y5 y6 y7) _ _ _ _ _ _ _ _); intro w x dx z n tn r rest; subst eE; set_option tactic.hygienic false in intro; set_option tactic.hygienic false in intros; revert FG' F' N' B' X' T'; revert B F X N T hk hd hu hret hex; revert mean mg mb dp un gd cn cs a ccd cl outer A₀ base h₀ L m s Q E g' L' h'; refine amb_all ?_; intro eP eE; refine ((?eg4 : ∀ y0 y1 y2 y3 y4 y5 y6 y7 y8 y9 y10 y11 y12 y13 y14 y15 y16 y17 y18 y19 y20 y21 y22, eP y0 y1 y2 y3 y4 y5 y6 y7 y8 y9 y10 y11 y12 y13 y14 y15 y16 y17 y18 y19 y20 y21 y22) _ _ _ _ _ _ _ _ _ _ _ _ _ _ _ _ _ _ _ _ _ _ _); intro mean mg mb dp un gd cn cs a ccd cl outer A₀ base h₀ L m s Q E g' L' h'; subst eE; set_option tactic.hygienic false in intro; set_option tactic.hygienic false in intros; skip)
  ((try dsimp only); (try k_lift B'))
  k_steps
  unfold Hold
  refine wh_rule (J := fun k s' => ∃ n' r' t' h' tk', s' = { s with heap := h', toks := tk' } ∧ Fr g' L' h' (fun y => List.lookup y [(Str.ofString "self", Value.ref x)]) ∧ News g' L' h' ((x, instObj 269 dx) :: (dx, scD z n' t') :: rest) ∧ Sf z.T n' r' ∧ r'.length = k ∧ n' + figN r' = n + figN r) (by first | passes_own | with_unfolding_all passes_own) ?_ r.length _ ⟨n, r, tn, _, _, rfl, (by k_asm), (by k_asm), hs, rfl, rfl⟩
  clear hs
  rintro k s' ⟨n', r', t', h1, tk1, rfl, F1, N1, hs, hk1, he1⟩
  have hT := hs.sz
  have hn := hs.nn
  cases r' with
  | nil =>
    have e : n' = n + figN r := by rw [← he1]; exact (Int.add_zero n').symm
    have f1 := sgn_nil
    k_steps
    refine fin (hret t') (by k_asm) (by k_asm) ?_ rfl
    rw [← e]
    exact same
  | cons c r' =>
    rw [figN_cons] at he1
    have f1 := sgn_ne c r'
    cases hsp : isFig ⟨#[c]⟩ with
    | false =>
      have e : n' = n + figN r := by rw [← he1, hsp]; exact (Int.add_zero n').symm
      have f2 := isFig_f (x := sgn (c :: r')) hsp
      k_steps
      refine fin (hret t') (by k_asm) (by k_asm) ?_ rfl
      rw [← e]
      exact same
    | true =>
      have f2 := isFig_t (x := sgn (c :: r')) hsp
      rw [hsp, if_pos rfl] at he1
      k_steps
      exact ⟨r'.length, by simp at hk1; omega, n' + 1, r', _, _, _, rfl, (by k_asm), (by k_asm), hs.tail, rfl, by rw [← he1, Int.natCast_succ]; omega⟩
theorem hk59 : True := by
  k_with "mine call ref" => ((k_here; (k_dflt (show wpAny _ _ (call (Value.ref 224) _) _ _ _)); k_dflt (refine' useU (C := figures_c _ _ _ _ _ _ _ _ (by assumption) (by first | assumption | k_ne) (by first | assumption | k_all)) (hp := ?_)); intro t'_q h'_q tk'_q F'_q N'_q))
  exact True.intro

-- B2
theorem hk80 : True := by
  k_with_none
  exact True.intro
theorem hk61 : True := by
  k_with "mine call ref" => ((k_here; (k_dflt (show wpAny _ _ (call (Value.ref 52) _) _ _ _)); k_dflt (refine' useU (C := is_space_c _ _ _ _ _ (by first | assumption | exact rfl)) (hp := ?_)); intro h'_q tk'_q F'_q N'_q))
  exact True.intro
theorem hk62 : True := by
  k_with "mine call ref" => ((k_here; (k_dflt (show wpAny _ _ (call (Value.ref 66) _) _ _ _)); k_dflt (refine' useU (C := is_name_start_c _ _ _ _ _ (by first | assumption | exact Sf.head (by assumption)) (by first | assumption | exact rfl)) (hp := ?_)); intro h'_q tk'_q F'_q N'_q))
  exact True.intro
theorem hk63 : True := by
  k_with "mine call ref" => ((k_here; (k_dflt (show wpAny _ _ (call (Value.ref 73) _) _ _ _)); k_dflt (refine' useU (C := is_name_char_c _ _ _ _ _ (by first | assumption | exact Sf.head (by assumption)) (by first | assumption | exact rfl)) (hp := ?_)); intro h'_q tk'_q F'_q N'_q))
  exact True.intro
theorem hk64 : True := by
  k_with "mine k_all" => (assumption)
  exact True.intro
theorem hk65 : True := by
  k_with "mine k_room" => (ktr_room)
  exact True.intro
theorem hk66 : True := by
  k_with "mine k_units" => (ktr_units)
  exact True.intro

theorem hk67 : True := by
  k_with "mine call ref" => ((k_here; (k_dflt (show wpAny _ _ (call (Value.ref 175) _) _ _ _)); k_dflt (refine' useU (C := sign0_c _ _ _ _ _ _ _ _ (by assumption)) (hp := ?_)); intro t'_q h'_q tk'_q F'_q N'_q))
  exact True.intro
theorem hk68 : True := by
  k_with "mine call ref" => ((k_here; (k_dflt (show wpAny _ _ (call (Value.ref 175) _) _ _ _)); k_dflt (refine' useU (C := sign1_c _ _ _ _ _ _ _ _ _ (by assumption)) (hp := ?_)); intro t'_q h'_q tk'_q F'_q N'_q))
  exact True.intro
theorem hk69 : True := by
  k_with "mine call ref" => ((k_here; (k_dflt (show wpAny _ _ (call (Value.ref 196) _) _ _ _)); k_dflt (refine' useU (C := skip_c _ _ _ _ _ _ _ _ (by assumption) (by first | assumption | k_ne) (by first | assumption | k_all)) (hp := ?_)); intro t'_q h'_q tk'_q F'_q N'_q))
  exact True.intro
theorem hk70 : True := by
  k_with "mine call ref" => ((k_here; (k_dflt (show wpAny _ _ (call (Value.ref 224) _) _ _ _)); k_dflt (refine' useU (C := figures_c _ _ _ _ _ _ _ _ (by assumption) (by first | assumption | k_ne) (by first | assumption | k_all)) (hp := ?_)); intro t'_q h'_q tk'_q F'_q N'_q))
  exact True.intro
theorem hk71 : True := by
  k_with "mine exec While" => ((k_here; (refine whl_start 0 (Hold.out ?_))))
  exact True.intro
theorem hk72 : True := by
  k_with "mine exec While Compare" => ((k_here; (refine whl_start 0 (Hold.out ?_))))
  exact True.intro
theorem hk73 : True := by
  k_with "mine exec While Compare cons nil" => ((k_here; (refine whl_start 0 (Hold.out ?_))))
  exact True.intro
theorem hk74 : True := by
  k_with "mine exec While BoolOp" => ((k_here; (refine whl_start 0 (Hold.out ?_))))
  exact True.intro
theorem hk75 : True := by
  k_with "mine subscriptTail" => ((k_here; (with_reducible show wpAny _ _ (subscriptTail _ _ (Value.str _ _) (Value.int _ _)) _ _ _); (refine sub_at (by assumption) ?_); intro t'_q k'_q))
  exact True.intro
theorem hk76 : True := by
  k_with "mine subscriptTail" => ((k_here; (with_reducible show wpAny _ _ (subscriptTail _ (PySem.Expr.Slice (some _) (some _) none _) (Value.str _ _) (Value.ref _)) _ _ _); (with_reducible rename Fr _ _ _ _ => F'_q); (with_reducible rename News _ _ _ _ => N'_q); (refine slice_strN_ss (hsz := ?hsz) (s := ⟨_, _, _, _, _⟩) F'_q N'_q ?_); (case hsz => (simp only [PySem.sizeLine_eq]; omega)); intro _ _ _ _ _))
  exact True.intro
theorem hk77 : True := by
  k_with "mine WhlIf" => (first | (refine WhlIf.yes (decide_eq_true (by assumption)) ?_) | (refine WhlIf.no (decide_eq_false (by assumption)) ?_))
  exact True.intro

structure Wk where
  h1 : Int
  h2 : Int
  h3 : Int
  k1 : Tok
  k2 : Tok
  k3 : Tok
  tk : Tok
  tt : Tok
  tp : Tok
  a : Addr
  d : Addr
abbrev wdD (y : Wk) (kind text : Str) (place : Int) : Obj := dictOf [⟨y.h1, .str (Str.ofString "kind") y.k1, .str kind y.tk⟩, ⟨y.h2, .str (Str.ofString "text") y.k2, .str text y.tt⟩, ⟨y.h3, .str (Str.ofString "place") y.k3, .int place y.tp⟩] 3
theorem allLt_to {d : Addr} : ∀ {l : List (Addr × Obj)}, AllLt d l → ∀ p ∈ l, p.1 < d
  | [], _, _, h => nomatch h
  | _ :: _, h, _, .head _ => h.1
  | _ :: _, h, p, .tail _ hp => allLt_to h.2 p hp
theorem add_end {h₀ : Heap} {L : Addr} {m : Str → Option Value} {s : Shared} {Q : Value → Shared → Prop} {z : Sc} {kind text : Str} {place : Int} {rest : List (Addr × Obj)} {us : Array Value} {ep : Nat} {px pd : Addr × Obj}
    {h' : Heap} {tk : Nat} {a d : Addr} {h1 h2 h3 : Int} {k1 k2 k3 ta tt tp : Tok}
    (hret : ∀ y : Wk, @LT.lt Nat _ z.fl y.d → @LT.lt Nat _ y.d y.a → (∀ p ∈ rest, p.1 < y.d) → Ret h₀ L m s Q .none (px :: pd :: (z.fl, listOf (us.push (.ref y.a)) (ep + 1)) :: (y.a, instObj 149 y.d) :: (y.d, wdD y kind text place) :: rest))
    (F : Fr h₀ L h' m) (N : News h₀ L h' ((a, instObj 149 d) :: (d, dictOf [⟨h1, .str (Str.ofString "kind") k1, .str kind ta⟩, ⟨h2, .str (Str.ofString "text") k2, .str text tt⟩, ⟨h3, .str (Str.ofString "place") k3, .int place tp⟩] 3) :: px :: pd :: (z.fl, listOf (us.push (.ref a)) (ep + 1)) :: rest))
    (hf : @LT.lt Nat _ z.fl d) (hda : @LT.lt Nat _ d a) (hr : ∀ p ∈ rest, p.1 < d) : Q .none { s with heap := h', toks := tk } :=
  hret ⟨h1, h2, h3, k1, k2, k3, ta, tt, tp, a, d⟩ hf hda hr h' tk F fun p hp => N p (by
    simp only [List.mem_cons] at hp ⊢
    rcases hp with h | h | h | h | h | h
    · exact .inr (.inr (.inl h))
    · exact .inr (.inr (.inr (.inl h)))
    · exact .inr (.inr (.inr (.inr (.inl h))))
    · exact .inl h
    · exact .inr (.inl h)
    · exact .inr (.inr (.inr (.inr (.inr h)))))
theorem add_c (w : World) (x dx : Addr) (z : Sc) (n : Int) (tn : Tok) (us : Array Value) (ep : Nat) (kind text : Str) (place : Int) (t1 t2 t3 : Tok) (rest : List (Addr × Obj)) (o1 : @LT.lt Nat _ dx x) (o2 : @LT.lt Nat _ x z.fl) (hr : ∀ p ∈ rest, p.1 ≠ z.fl) (hus : us.size ≤ 100) :
    Con w 3 32 182 [.ref x, .str kind t1, .str text t2, .int place t3] ((x, instObj 269 dx) :: (dx, scD z n tn) :: (z.fl, listOf us ep) :: rest)
      (fun R => ∀ y : Wk, @LT.lt Nat _ z.fl y.d → @LT.lt Nat _ y.d y.a → (∀ p ∈ rest, p.1 < y.d) → R .none ((x, instObj 269 dx) :: (dx, scD z n tn) :: (z.fl, listOf (us.push (.ref y.a)) (ep + 1)) :: (y.a, instObj 149 y.d) :: (y.d, wdD y kind text place) :: rest)) (fun _ => True) := by
  (unfold Con; intro mean mg mb dp un gd cn cs a ccd cl outer A₀ base h₀ L m s Q E B F X N T hk hd hu hret hex)
  (refine wpAny_call ?_; k_dflt (refine' code_def ?k1 ?k2 ?k3 ?k4 ?k5 ?kA ?kF ?kK ?k6 ?k7 ?k8 ?k9 ?kB ?_ ?c2 ?c3 ?c4 ?c5; (case kA => exact rfl); (case kF => exact rfl); (case kK => assumption); (case k1 => k_asm); (case k2 => k_asm); (case k3 => k_asm); (case k4 => first | k_asm | exact drop1 (by k_asm) | exact drop2 (by k_asm)); (case k5 => k_asm); (case k6 => k_is); (case k7 => k_is); (case k8 => ktr_room); (case k9 => first | exact BindsTo.of_eq rfl | exact binds_K (by k_in) rfl (by k_is) rfl rfl rfl); (case c5 => decide); (case kB => exact locs rfl); (case c2 => exact rfl); (case c3 => exact rfl); (case c4 => exact rfl); k_whole; intro g' L' h' FG' F' N' B' X' T'; (try dsimp only); (try k_lift B'); (try k_fold)))
  k_steps
  refine' add_end hret (by k_asm) ?N ?a ?b ?c
  case N => k_asm
  case a => omega
  case b => assumption
  case c => exact allLt_to (by simp_all)
theorem hk78 : True := by
  k_with "mine call ref" => ((k_here; (k_dflt (show wpAny _ _ (call (Value.ref 182) _) _ _ _)); k_dflt (refine' useU (C := add_c _ _ _ _ _ _ _ _ _ _ _ _ _ _ _ (by first | assumption | omega) (by first | assumption | omega) (by first | assumption | k_all) (by assumption)) (hp := ?_)); intro y'_q l1_q l2_q l3_q h'_q tk'_q F'_q N'_q))
  exact True.intro
theorem plain_name_c (w : World) (x dx : Addr) (z : Sc) (n : Int) (tn : Tok) (r : List Nat) (rest : List (Addr × Obj)) (hs : Sf z.T n r) (hx : @Ne Nat x dx) (hr : ∀ p ∈ rest, p.1 ≠ dx) :
    Con w 4 40 245 [.ref x] ((x, instObj 269 dx) :: (dx, scD z n tn) :: rest)
      (fun R => ∀ t t2, R (.str (txt (r.take (nmN r))) t2) ((x, instObj 269 dx) :: (dx, scD z (n + nmN r) t) :: rest)) (fun _ => True) := by
  (unfold Con; intro mean mg mb dp un gd cn cs a ccd cl outer A₀ base h₀ L m s Q E B F X N T hk hd hu hret hex)
  (refine wpAny_call ?_; k_dflt (refine' code_def ?k1 ?k2 ?k3 ?k4 ?k5 ?kA ?kF ?kK ?k6 ?k7 ?k8 ?k9 ?kB ?_ ?c2 ?c3 ?c4 ?c5; (case kA => exact rfl); (case kF => exact rfl); (case kK => assumption); (case k1 => k_asm); (case k2 => k_asm); (case k3 => k_asm); (case k4 => first | k_asm | exact drop1 (by k_asm) | exact drop2 (by k_asm)); (case k5 => k_asm); (case k6 => k_is); (case k7 => k_is); (case k8 => ktr_room); (case k9 => first | exact BindsTo.of_eq rfl | exact binds_K (by k_in) rfl (by k_is) rfl rfl rfl); (case c5 => decide); (case kB => exact locs rfl); (case c2 => exact rfl); (case c3 => exact rfl); (case c4 => exact rfl); k_whole; intro g' L' h' FG' F' N' B' X' T'))
  (revert FG' F' N' B' X' T'; revert B F X N T hk hd hu hret hex; revert mean mg mb dp un gd cn cs a ccd cl outer A₀ base h₀ L m s Q E g' L' h'; revert w x dx z n tn r rest; refine ep8_all (by repeat' (first | exact ne_world | exact ne_sc | exact ⟨({} : Shared)⟩ | exact ⟨Wd.star⟩ | refine ne_pair ?_ ?_ | exact inferInstance)) ?_; intro eP eE; refine ((?eg1 : ∀ y0 y1 y2 y3 y4 y5 y6 y7, eP y0 y1 y2 y3 y4 y5 y6 y7) _ _ _ _ _ _ _ _); intro w x dx z n tn r rest; subst eE; set_option tactic.hygienic false in intro; set_option tactic.hygienic false in intros; revert FG' F' N' B' X' T'; revert B F X N T hk hd hu hret hex; revert mean mg mb dp un gd cn cs a ccd cl outer A₀ base h₀ L m s Q E g' L' h'; refine amb_all ?_; intro eP eE; refine ((?eg2 : ∀ y0 y1 y2 y3 y4 y5 y6 y7 y8 y9 y10 y11 y12 y13 y14 y15 y16 y17 y18 y19 y20 y21 y22, eP y0 y1 y2 y3 y4 y5 y6 y7 y8 y9 y10 y11 y12 y13 y14 y15 y16 y17 y18 y19 y20 y21 y22) _ _ _ _ _ _ _ _ _ _ _ _ _ _ _ _ _ _ _ _ _ _ _); intro mean mg mb dp un gd cn cs a ccd cl outer A₀ base h₀ L m s Q E g' L' h'; subst eE; set_option tactic.hygienic false in intro; set_option tactic.hygienic false in intros; skip)
  ((try dsimp only); (try k_lift B'))
  have none' : nmN r = 0 → (∀ R : Value → List (Addr × Obj) → Prop, (∀ t t2, R (.str (txt (r.take (nmN r))) t2) ((x, instObj 269 dx) :: (dx, scD z (n + nmN r) t) :: rest)) → ∀ t2, R (.str (Str.ofString "") t2) ((x, instObj 269 dx) :: (dx, scD z n tn) :: rest)) := by
    intro h R hR t2
    rw [h] at hR
    have := hR tn t2
    have e : txt (r.take 0) = Str.ofString "" := rfl
    rw [e, Int.natCast_zero, Int.add_zero] at this
    exact this
  have hret0 : nmN r = 0 → ∀ t2, Ret h₀ L m s Q (.str (Str.ofString "") t2) ((x, instObj 269 dx) :: (dx, scD z n tn) :: rest) := fun h => none' h _ hret
  clear none'
  cases r with
  | nil =>
    have f1 : (sgn [] == Str.ofString "") = true := by decide
    k_steps
    exact finS (hret0 rfl) (by k_asm) (by k_asm) same rfl
  | cons c r =>
    have f1 : (sgn (c :: r) == Str.ofString "") = false := by have := sgn_ne c r; rw [bne] at this; simpa using this
    cases hc : ((⟨#[c]⟩ : Str) == Str.ofString ":") with
    | true =>
      have f2 : (sgn (c :: r) == Str.ofString ":") = true := hc
      k_steps
      exact finS (hret0 (by simp only [nmN, hc]; rfl)) (by k_asm) (by k_asm) same rfl
    | false =>
      have f2 : (sgn (c :: r) == Str.ofString ":") = false := hc
      cases hst : isStart ⟨#[c]⟩ with
      | false =>
        k_steps
        exact finS (hret0 (by simp only [nmN, hc, hst]; rfl)) (by k_asm) (by k_asm) same rfl
      | true =>
        k_steps
        unfold Hold
        have en : nmN (c :: r) = nmC (c :: r) := by simp only [nmN, hc, hst]; rfl
        rw [en] at hret
        clear hret0
        have h0 := hs
        generalize hR : c :: r = R at h0 hret ⊢
        refine wh_rule (J := fun k s' => ∃ n' r' t' h' tk', s' = { s with heap := h', toks := tk' } ∧ Fr g' L' h' (fun y => if y = Str.ofString "begin" then some (Value.int n tn) else List.lookup y [(Str.ofString "self", Value.ref x)]) ∧ News g' L' h' ((x, instObj 269 dx) :: (dx, scD z n' t') :: rest) ∧ Sf z.T n' r' ∧ r'.length = k ∧ n' + nmC r' = n + nmC R) (by first | passes_own | with_unfolding_all passes_own) ?_ R.length _ ⟨n, R, tn, _, _, rfl, (by k_asm), (by k_asm), h0, rfl, rfl⟩
        clear hs f1 f2 hst hc
        rintro k s' ⟨n', r', t', h1, tk1, rfl, F1, N1, hs, hk1, he1⟩
        have hT := hs.sz
        have hn := hs.nn
        have hfin : nmC r' = 0 → n' = n + nmC R := by intro h; rw [h] at he1; omega
        have hsl := h0.slice (k := nmC R) (by unfold nmC; exact (List.takeWhile_sublist _).length_le) (by rw [← hR]; intro h; cases h)
        cases r' with
        | nil =>
          have e := hfin rfl
          have f1 : (sgn [] != Str.ofString "") = false := by decide
          subst e
          k_steps
          exact finS (hret t') (by k_asm) (by k_asm) same hsl
        | cons c r' =>
          have f1 := sgn_ne c r'
          rw [nmC_cons] at he1 hfin
          cases hc : ((⟨#[c]⟩ : Str) != Str.ofString ":") with
          | false =>
            have f2 : (sgn (c :: r') != Str.ofString ":") = false := hc
            have e := hfin (by rw [hc]; rfl)
            subst e
            k_steps
            exact finS (hret t') (by k_asm) (by k_asm) same hsl
          | true =>
            have f2 : (sgn (c :: r') != Str.ofString ":") = true := hc
            cases hst : isChar ⟨#[c]⟩ with
            | false =>
              have e := hfin (by rw [hc, hst]; rfl)
              subst e
              k_steps
              exact finS (hret t') (by k_asm) (by k_asm) same hsl
            | true =>
              rw [hc, hst, Bool.and_self, if_pos rfl] at he1
              k_steps
              exact ⟨r'.length, by simp at hk1; omega, n' + 1, r', _, _, _, rfl, (by k_asm), (by k_asm), hs.tail, rfl, by rw [← he1, Int.natCast_succ]; omega⟩
theorem hk79 : True := by
  k_with "mine call ref" => ((k_here; (k_dflt (show wpAny _ _ (call (Value.ref 245) _) _ _ _)); k_dflt (refine' useU (C := plain_name_c _ _ _ _ _ _ _ _ (by assumption) (by first | assumption | k_ne) (by first | assumption | k_all)) (hp := ?_)); intro t1'_q t2'_q h'_q tk'_q F'_q N'_q))
  exact True.intro

-- B3
theorem hk110 : True := by
  k_with_none
  exact True.intro
theorem hk81 : True := by
  k_with "mine call ref" => ((k_here; (k_dflt (show wpAny _ _ (call (Value.ref 52) _) _ _ _)); k_dflt (refine' useU (C := is_space_c _ _ _ _ _ (by first | assumption | exact rfl)) (hp := ?_)); intro h'_q tk'_q F'_q N'_q))
  exact True.intro
theorem hk82 : True := by
  k_with "mine call ref" => ((k_here; (k_dflt (show wpAny _ _ (call (Value.ref 66) _) _ _ _)); k_dflt (refine' useU (C := is_name_start_c _ _ _ _ _ (by first | assumption | exact Sf.head (by assumption)) (by first | assumption | exact rfl)) (hp := ?_)); intro h'_q tk'_q F'_q N'_q))
  exact True.intro
theorem hk83 : True := by
  k_with "mine call ref" => ((k_here; (k_dflt (show wpAny _ _ (call (Value.ref 73) _) _ _ _)); k_dflt (refine' useU (C := is_name_char_c _ _ _ _ _ (by first | assumption | exact Sf.head (by assumption)) (by first | assumption | exact rfl)) (hp := ?_)); intro h'_q tk'_q F'_q N'_q))
  exact True.intro
theorem hk84 : True := by
  k_with "mine k_all" => (assumption)
  exact True.intro
theorem hk85 : True := by
  k_with "mine k_room" => (ktr_room)
  exact True.intro
theorem hk86 : True := by
  k_with "mine k_units" => (ktr_units)
  exact True.intro

theorem hk87 : True := by
  k_with "mine call ref" => ((k_here; (k_dflt (show wpAny _ _ (call (Value.ref 175) _) _ _ _)); k_dflt (refine' useU (C := sign0_c _ _ _ _ _ _ _ _ (by assumption)) (hp := ?_)); intro t'_q h'_q tk'_q F'_q N'_q))
  exact True.intro
theorem hk88 : True := by
  k_with "mine call ref" => ((k_here; (k_dflt (show wpAny _ _ (call (Value.ref 175) _) _ _ _)); k_dflt (refine' useU (C := sign1_c _ _ _ _ _ _ _ _ _ (by assumption)) (hp := ?_)); intro t'_q h'_q tk'_q F'_q N'_q))
  exact True.intro
theorem hk89 : True := by
  k_with "mine call ref" => ((k_here; (k_dflt (show wpAny _ _ (call (Value.ref 196) _) _ _ _)); k_dflt (refine' useU (C := skip_c _ _ _ _ _ _ _ _ (by assumption) (by first | assumption | k_ne) (by first | assumption | k_all)) (hp := ?_)); intro t'_q h'_q tk'_q F'_q N'_q))
  exact True.intro
theorem hk90 : True := by
  k_with "mine call ref" => ((k_here; (k_dflt (show wpAny _ _ (call (Value.ref 224) _) _ _ _)); k_dflt (refine' useU (C := figures_c _ _ _ _ _ _ _ _ (by assumption) (by first | assumption | k_ne) (by first | assumption | k_all)) (hp := ?_)); intro t'_q h'_q tk'_q F'_q N'_q))
  exact True.intro
theorem hk91 : True := by
  k_with "mine exec While" => ((k_here; (refine whl_start 0 (Hold.out ?_))))
  exact True.intro
theorem hk92 : True := by
  k_with "mine exec While Compare" => ((k_here; (refine whl_start 0 (Hold.out ?_))))
  exact True.intro
theorem hk93 : True := by
  k_with "mine exec While Compare cons nil" => ((k_here; (refine whl_start 0 (Hold.out ?_))))
  exact True.intro
theorem hk94 : True := by
  k_with "mine exec While BoolOp" => ((k_here; (refine whl_start 0 (Hold.out ?_))))
  exact True.intro
theorem hk95 : True := by
  k_with "mine subscriptTail" => ((k_here; (with_reducible show wpAny _ _ (subscriptTail _ _ (Value.str _ _) (Value.int _ _)) _ _ _); (refine sub_at (by assumption) ?_); intro t'_q k'_q))
  exact True.intro
theorem hk96 : True := by
  k_with "mine subscriptTail" => ((k_here; (with_reducible show wpAny _ _ (subscriptTail _ (PySem.Expr.Slice (some _) (some _) none _) (Value.str _ _) (Value.ref _)) _ _ _); (with_reducible rename Fr _ _ _ _ => F'_q); (with_reducible rename News _ _ _ _ => N'_q); (refine slice_strN_ss (hsz := ?hsz) (s := ⟨_, _, _, _, _⟩) F'_q N'_q ?_); (case hsz => (simp only [PySem.sizeLine_eq]; omega)); intro _ _ _ _ _))
  exact True.intro
theorem hk97 : True := by
  k_with "mine WhlIf" => (first | (refine WhlIf.yes (decide_eq_true (by assumption)) ?_) | (refine WhlIf.no (decide_eq_false (by assumption)) ?_))
  exact True.intro

theorem hk98 : True := by
  k_with "mine call ref" => ((k_here; (k_dflt (show wpAny _ _ (call (Value.ref 182) _) _ _ _)); k_dflt (refine' useU (C := add_c _ _ _ _ _ _ _ _ _ _ _ _ _ _ _ (by first | assumption | omega) (by first | assumption | omega) (by first | assumption | k_all) (by assumption)) (hp := ?_)); intro y'_q l1_q l2_q l3_q h'_q tk'_q F'_q N'_q))
  exact True.intro
theorem hk99 : True := by
  k_with "mine call ref" => ((k_here; (k_dflt (show wpAny _ _ (call (Value.ref 245) _) _ _ _)); k_dflt (refine' useU (C := plain_name_c _ _ _ _ _ _ _ _ (by assumption) (by first | assumption | k_ne) (by first | assumption | k_all)) (hp := ?_)); intro t1'_q t2'_q h'_q tk'_q F'_q N'_q))
  exact True.intro

theorem hk100 : True := by
  k_with "mine call ref" => ((k_here; (k_dflt (show wpAny _ _ (call (Value.ref 103) _) _ _ _)); k_dflt (refine' useEA (C := fault_c _ _ _ _) (hp := ?_) (he := ?_)); (rotate_left; exact True.intro); intro y'_q l1_q h'_q tk'_q F'_q N'_q))
  exact True.intro
theorem hk101 : True := by
  k_with "mine exec Raise some none" => ((k_here; k_dflt (refine' Raise_fault ?kX ?hh ?hsub ?hty ?_; (case kX => k_asm); (case hh => first | rfl | assumption); (case hsub => k_is); (case hty => k_is))))
  exact True.intro
theorem hk102 : True := by
  k_with "mine RaisF" => ((k_dflt (refine' raisF ?X ?F ?N ?_; (case F => k_asm); (case N => k_asm); (case X => k_asm))))
  exact True.intro
theorem hk103 : True := by
  k_with "mine leaving ref" => ((k_here; k_dflt (first
  | (refine' leave_first ?K ?F ?N ?lt ?_; (case K => k_asm); (case F => k_asm); (case N => k_asm); (case lt => assumption); intro h'_q R'_q)
  | (refine' leave_next ?K ?F ?R ?_; (case K => k_asm); (case F => k_asm); (case R => assumption); intro h'_q R'_q)); (try dsimp only)))
  exact True.intro

theorem hk104 : True := by
  k_with "mine units_room" => (ktr_units)
  exact True.intro
theorem hk105 : True := by
  k_with "mine compareOp In str ref" => ((k_here; k_dflt (refine' in_tup_K ?X ?F ?o ?i ?_; (case F => k_asm); (case X => k_asm); (case o => k_is); (case i => (repeat constructor)))))
  exact True.intro
theorem hk106 : True := by
  k_with "mine compareOp NotIn str ref" => ((k_here; k_dflt (refine' notin_tup_K ?X ?F ?o ?i ?_; (case F => k_asm); (case X => k_asm); (case o => k_is); (case i => (repeat constructor)))))
  exact True.intro
theorem hk107 : True := by
  k_with "mine compareOp Eq ref ref" => ((k_here; k_dflt (refine' eq_lens_K ?N ?a ?b ?z ?u ?_; (case N => k_asm); (case a => k_mem); (case b => k_mem); (case z => simp); (case u => ktr_units))))
  exact True.intro
theorem hk108 : True := by
  k_with "mine subscriptTail" => ((k_here; k_dflt (refine' last_K ?N ?a ?z ?_ ?s ?g; (case N => k_asm); (case a => k_mem); (case z => assumption); (case s => with_unfolding_all rfl); (case g => (intro _; with_unfolding_all rfl)))))
  exact True.intro
theorem hk109 : True := by
  k_with "mine compareOp Eq ref ref" => ((k_here; k_dflt (refine' eq_nil_K ?N ?a ?b ?u ?_; (case N => k_asm); (case a => k_mem); (case b => k_mem); (case u => ktr_units))))
  exact True.intro

/-- what is handed on where a word was found -/
abbrev postO (x dx : Addr) (z : Sc) (n : Int) (us : Array Value) (ep : Nat) (rest : List (Addr × Obj)) (kind text : Str) (k : Nat) (R : Value → List (Addr × Obj) → Prop) : Prop :=
  ∀ (y : Wk) (t : Tok), @LT.lt Nat _ z.fl y.d → @LT.lt Nat _ y.d y.a → (∀ p ∈ rest, p.1 < y.d) → R .none ((x, instObj 269 dx) :: (dx, scD z (n + (k : Int)) t) :: (z.fl, listOf (us.push (.ref y.a)) (ep + 1)) :: (y.a, instObj 149 y.d) :: (y.d, wdD y kind text n) :: rest)
abbrev postOut (x dx : Addr) (z : Sc) (n : Int) (us : Array Value) (ep : Nat) (rest : List (Addr × Obj)) (o : Out) (R : Value → List (Addr × Obj) → Prop) : Prop :=
  ∀ kind text k, o = .word kind text k → postO x dx z n us ep rest kind text k R
abbrev epostOut (rest : List (Addr × Obj)) (o : Out) (RE : Str → List (Addr × Obj) → Prop) : Prop := ∀ msg, o = .fault msg → RE msg rest
theorem fin_word {x dx : Addr} {z : Sc} {n n' : Int} {us : Array Value} {ep : Nat} {rest : List (Addr × Obj)} {kind text kind' text' : Str} {k : Nat} {o : Out} {h₀ : Heap} {L : Addr} {m : Str → Option Value} {s : Shared} {Q : Value → Shared → Prop} {h' : Heap} {tk : Nat} {y : Wk} {t : Tok}
    (hret : postOut x dx z n us ep rest o (Ret h₀ L m s Q)) (F : Fr h₀ L h' m) (N : News h₀ L h' ((x, instObj 269 dx) :: (dx, scD z n' t) :: (z.fl, listOf (us.push (.ref y.a)) (ep + 1)) :: (y.a, instObj 149 y.d) :: (y.d, wdD y kind' text' n) :: rest))
    (l1 : @LT.lt Nat _ z.fl y.d) (l2 : @LT.lt Nat _ y.d y.a) (l3 : ∀ p ∈ rest, p.1 < y.d) (e : o = .word kind text k) (hn : n' = n + (k : Int)) (hk : kind' = kind) (ht : text' = text) : Q .none { s with heap := h', toks := tk } := by
  subst hn hk ht
  exact hret _ _ _ e y t l1 l2 l3 h' tk F N
theorem mark_g (w : World) (x dx : Addr) (z : Sc) (n : Int) (tn : Tok) (us : Array Value) (ep : Nat) (r : List Nat) (rest : List (Addr × Obj)) (hs : Sf z.T n r) (hn2 : n ≤ 1000) (o1 : @LT.lt Nat _ dx x) (o2 : @LT.lt Nat _ x z.fl) (hr : ∀ p ∈ rest, p.1 ≠ dx) (hr2 : ∀ p ∈ rest, p.1 ≠ z.fl) (hus : us.size ≤ 100) :
    ConE w 4 80 266 [.ref x] ((x, instObj 269 dx) :: (dx, scD z n tn) :: (z.fl, listOf us ep) :: rest)
      (fun R => postOut x dx z n us ep rest (markO n r) R) (fun R => epostOut rest (markO n r) R) := by
  (unfold ConE; intro mean mg mb dp un gd cn cs a ccd cl outer A₀ base h₀ L m s Q E B F X N T hk hd hu hret hex)
  (refine wpAny_call ?_; k_dflt (refine' code_def ?k1 ?k2 ?k3 ?k4 ?k5 ?kA ?kF ?kK ?k6 ?k7 ?k8 ?k9 ?kB ?_ ?c2 ?c3 ?c4 ?c5; (case kA => exact rfl); (case kF => exact rfl); (case kK => assumption); (case k1 => k_asm); (case k2 => k_asm); (case k3 => k_asm); (case k4 => first | k_asm | exact drop1 (by k_asm) | exact drop2 (by k_asm)); (case k5 => k_asm); (case k6 => k_is); (case k7 => k_is); (case k8 => ktr_room); (case k9 => first | exact BindsTo.of_eq rfl | exact binds_K (by k_in) rfl (by k_is) rfl rfl rfl); (case c5 => decide); (case kB => exact locs rfl); (case c2 => exact rfl); (case c3 => exact rfl); (case c4 => exact rfl); k_whole; intro g' L' h' FG' F' N' B' X' T'))
  (revert FG' F' N' B' X' T'; revert B F X N T hk hd hu hret hex; revert mean mg mb dp un gd cn cs a ccd cl outer A₀ base h₀ L m s Q E g' L' h'; revert w x dx z n tn us ep r rest; refine ep10_all (by repeat' (first | exact ne_world | exact ne_sc | exact ⟨({} : Shared)⟩ | exact ⟨Wd.star⟩ | refine ne_pair ?_ ?_ | exact inferInstance)) ?_; intro eP eE; refine ((?eg1 : ∀ y0 y1 y2 y3 y4 y5 y6 y7 y8 y9, eP y0 y1 y2 y3 y4 y5 y6 y7 y8 y9) _ _ _ _ _ _ _ _ _ _); intro w x dx z n tn us ep r rest; subst eE; set_option tactic.hygienic false in intro; set_option tactic.hygienic false in intros; revert FG' F' N' B' X' T'; revert B F X N T hk hd hu hret hex; revert mean mg mb dp un gd cn cs a ccd cl outer A₀ base h₀ L m s Q E g' L' h'; refine amb_all ?_; intro eP eE; refine ((?eg2 : ∀ y0 y1 y2 y3 y4 y5 y6 y7 y8 y9 y10 y11 y12 y13 y14 y15 y16 y17 y18 y19 y20 y21 y22, eP y0 y1 y2 y3 y4 y5 y6 y7 y8 y9 y10 y11 y12 y13 y14 y15 y16 y17 y18 y19 y20 y21 y22) _ _ _ _ _ _ _ _ _ _ _ _ _ _ _ _ _ _ _ _ _ _ _); intro mean mg mb dp un gd cn cs a ccd cl outer A₀ base h₀ L m s Q E g' L' h'; subst eE; set_option tactic.hygienic false in intro; set_option tactic.hygienic false in intros; skip)
  ((try dsimp only); (try k_lift B'))
  have hT := hs.sz
  have hn := hs.nn
  have hl1 := sgn_len r
  have hl2 := sgn_len r.tail
  k_steps
  all_goals first | (refine' fin_word hret ?F ?N ?l1 ?l2 ?l3 ?e ?hn ?hk ?ht; (case F => k_asm); (case N => k_asm); (case l1 => assumption); (case l2 => assumption); (case l3 => assumption); (case hk => exact rfl); (case ht => exact rfl); (case hn => exact rfl); (case e => (simp only [markO, markT, *, if_true, if_false, Bool.false_eq_true, Bool.and_true, Bool.true_and, Bool.and_false, Bool.false_and, Bool.not_true, Bool.not_false, Bool.or_false, Bool.false_or, Bool.or_true, Bool.true_or]))) | (refine' Fly.out (hex _ ?e) ?R ?FG ?sub; (case R => assumption); (case FG => assumption); (case sub => (intro p hp; (try simp only [List.mem_cons]); first | exact hp | exact .inr hp | exact .inr (.inr hp) | exact .inr (.inr (.inr hp)) | exact .inr (.inr (.inr (.inr hp))))); (case e => (simp only [markO, markT, *, if_true, if_false, Bool.false_eq_true, Bool.and_true, Bool.true_and, Bool.and_false, Bool.false_and, Bool.not_true, Bool.not_false, Bool.or_false, Bool.false_or, Bool.or_true, Bool.true_or])))
theorem mark_c (w : World) (x dx : Addr) (z : Sc) (n : Int) (tn : Tok) (us : Array Value) (ep : Nat) (c : Nat) (r : List Nat) (rest : List (Addr × Obj)) (hs : Sf z.T n (c :: r)) (o1 : @LT.lt Nat _ dx x) (o2 : @LT.lt Nat _ x z.fl) (hr : ∀ p ∈ rest, p.1 ≠ dx) (hr2 : ∀ p ∈ rest, p.1 ≠ z.fl) (hus : us.size ≤ 100) (o : Out) (ho : markO n (c :: r) = o) :
    ConE w 4 80 266 [.ref x] ((x, instObj 269 dx) :: (dx, scD z n tn) :: (z.fl, listOf us ep) :: rest)
      (fun R => postOut x dx z n us ep rest o R) (fun R => epostOut rest o R) := by
  subst ho
  exact mark_g w x dx z n tn us ep (c :: r) rest hs (hs.n1000 (by simp)) o1 o2 hr hr2 hus

-- B4
theorem hk141 : True := by
  k_with_none
  exact True.intro
theorem hk111 : True := by
  k_with "mine call ref" => ((k_here; (k_dflt (show wpAny _ _ (call (Value.ref 52) _) _ _ _)); k_dflt (refine' useU (C := is_space_c _ _ _ _ _ (by first | assumption | exact rfl)) (hp := ?_)); intro h'_q tk'_q F'_q N'_q))
  exact True.intro
theorem hk112 : True := by
  k_with "mine call ref" => ((k_here; (k_dflt (show wpAny _ _ (call (Value.ref 66) _) _ _ _)); k_dflt (refine' useU (C := is_name_start_c _ _ _ _ _ (by first | assumption | exact Sf.head (by assumption)) (by first | assumption | exact rfl)) (hp := ?_)); intro h'_q tk'_q F'_q N'_q))
  exact True.intro
theorem hk113 : True := by
  k_with "mine call ref" => ((k_here; (k_dflt (show wpAny _ _ (call (Value.ref 73) _) _ _ _)); k_dflt (refine' useU (C := is_name_char_c _ _ _ _ _ (by first | assumption | exact Sf.head (by assumption)) (by first | assumption | exact rfl)) (hp := ?_)); intro h'_q tk'_q F'_q N'_q))
  exact True.intro
theorem hk114 : True := by
  k_with "mine k_all" => (assumption)
  exact True.intro
theorem hk115 : True := by
  k_with "mine k_room" => (ktr_room)
  exact True.intro
theorem hk116 : True := by
  k_with "mine k_units" => (ktr_units)
  exact True.intro

theorem hk117 : True := by
  k_with "mine call ref" => ((k_here; (k_dflt (show wpAny _ _ (call (Value.ref 175) _) _ _ _)); k_dflt (refine' useU (C := sign0_c _ _ _ _ _ _ _ _ (by assumption)) (hp := ?_)); intro t'_q h'_q tk'_q F'_q N'_q))
  exact True.intro
theorem hk118 : True := by
  k_with "mine call ref" => ((k_here; (k_dflt (show wpAny _ _ (call (Value.ref 175) _) _ _ _)); k_dflt (refine' useU (C := sign1_c _ _ _ _ _ _ _ _ _ (by assumption)) (hp := ?_)); intro t'_q h'_q tk'_q F'_q N'_q))
  exact True.intro
theorem hk119 : True := by
  k_with "mine call ref" => ((k_here; (k_dflt (show wpAny _ _ (call (Value.ref 196) _) _ _ _)); k_dflt (refine' useU (C := skip_c _ _ _ _ _ _ _ _ (by assumption) (by first | assumption | k_ne) (by first | assumption | k_all)) (hp := ?_)); intro t'_q h'_q tk'_q F'_q N'_q))
  exact True.intro
theorem hk120 : True := by
  k_with "mine call ref" => ((k_here; (k_dflt (show wpAny _ _ (call (Value.ref 224) _) _ _ _)); k_dflt (refine' useU (C := figures_c _ _ _ _ _ _ _ _ (by assumption) (by first | assumption | k_ne) (by first | assumption | k_all)) (hp := ?_)); intro t'_q h'_q tk'_q F'_q N'_q))
  exact True.intro
theorem hk121 : True := by
  k_with "mine exec While" => ((k_here; (refine whl_start 0 (Hold.out ?_))))
  exact True.intro
theorem hk122 : True := by
  k_with "mine exec While Compare" => ((k_here; (refine whl_start 0 (Hold.out ?_))))
  exact True.intro
theorem hk123 : True := by
  k_with "mine exec While Compare cons nil" => ((k_here; (refine whl_start 0 (Hold.out ?_))))
  exact True.intro
theorem hk124 : True := by
  k_with "mine exec While BoolOp" => ((k_here; (refine whl_start 0 (Hold.out ?_))))
  exact True.intro
theorem hk125 : True := by
  k_with "mine subscriptTail" => ((k_here; (with_reducible show wpAny _ _ (subscriptTail _ _ (Value.str _ _) (Value.int _ _)) _ _ _); (refine sub_at (by assumption) ?_); intro t'_q k'_q))
  exact True.intro
theorem hk126 : True := by
  k_with "mine subscriptTail" => ((k_here; (with_reducible show wpAny _ _ (subscriptTail _ (PySem.Expr.Slice (some _) (some _) none _) (Value.str _ _) (Value.ref _)) _ _ _); (with_reducible rename Fr _ _ _ _ => F'_q); (with_reducible rename News _ _ _ _ => N'_q); (refine slice_strN_ss (hsz := ?hsz) (s := ⟨_, _, _, _, _⟩) F'_q N'_q ?_); (case hsz => (simp only [PySem.sizeLine_eq]; omega)); intro _ _ _ _ _))
  exact True.intro
theorem hk127 : True := by
  k_with "mine WhlIf" => (first | (refine WhlIf.yes (decide_eq_true (by assumption)) ?_) | (refine WhlIf.no (decide_eq_false (by assumption)) ?_))
  exact True.intro

theorem hk128 : True := by
  k_with "mine call ref" => ((k_here; (k_dflt (show wpAny _ _ (call (Value.ref 182) _) _ _ _)); k_dflt (refine' useU (C := add_c _ _ _ _ _ _ _ _ _ _ _ _ _ _ _ (by first | assumption | omega) (by first | assumption | omega) (by first | assumption | k_all) (by assumption)) (hp := ?_)); intro y'_q l1_q l2_q l3_q h'_q tk'_q F'_q N'_q))
  exact True.intro
theorem hk129 : True := by
  k_with "mine call ref" => ((k_here; (k_dflt (show wpAny _ _ (call (Value.ref 245) _) _ _ _)); k_dflt (refine' useU (C := plain_name_c _ _ _ _ _ _ _ _ (by assumption) (by first | assumption | k_ne) (by first | assumption | k_all)) (hp := ?_)); intro t1'_q t2'_q h'_q tk'_q F'_q N'_q))
  exact True.intro

theorem hk130 : True := by
  k_with "mine call ref" => ((k_here; (k_dflt (show wpAny _ _ (call (Value.ref 103) _) _ _ _)); k_dflt (refine' useEA (C := fault_c _ _ _ _) (hp := ?_) (he := ?_)); (rotate_left; exact True.intro); intro y'_q l1_q h'_q tk'_q F'_q N'_q))
  exact True.intro
theorem hk131 : True := by
  k_with "mine exec Raise some none" => ((k_here; k_dflt (refine' Raise_fault ?kX ?hh ?hsub ?hty ?_; (case kX => k_asm); (case hh => first | rfl | assumption); (case hsub => k_is); (case hty => k_is))))
  exact True.intro
theorem hk132 : True := by
  k_with "mine RaisF" => ((k_dflt (refine' raisF ?X ?F ?N ?_; (case F => k_asm); (case N => k_asm); (case X => k_asm))))
  exact True.intro
theorem hk133 : True := by
  k_with "mine leaving ref" => ((k_here; k_dflt (first
  | (refine' leave_first ?K ?F ?N ?lt ?_; (case K => k_asm); (case F => k_asm); (case N => k_asm); (case lt => assumption); intro h'_q R'_q)
  | (refine' leave_next ?K ?F ?R ?_; (case K => k_asm); (case F => k_asm); (case R => assumption); intro h'_q R'_q)); (try dsimp only)))
  exact True.intro

theorem hk134 : True := by
  k_with "mine units_room" => (ktr_units)
  exact True.intro
theorem hk135 : True := by
  k_with "mine compareOp In str ref" => ((k_here; k_dflt (refine' in_tup_K ?X ?F ?o ?i ?_; (case F => k_asm); (case X => k_asm); (case o => k_is); (case i => (repeat constructor)))))
  exact True.intro
theorem hk136 : True := by
  k_with "mine compareOp NotIn str ref" => ((k_here; k_dflt (refine' notin_tup_K ?X ?F ?o ?i ?_; (case F => k_asm); (case X => k_asm); (case o => k_is); (case i => (repeat constructor)))))
  exact True.intro
theorem hk137 : True := by
  k_with "mine compareOp Eq ref ref" => ((k_here; k_dflt (refine' eq_lens_K ?N ?a ?b ?z ?u ?_; (case N => k_asm); (case a => k_mem); (case b => k_mem); (case z => simp); (case u => ktr_units))))
  exact True.intro
theorem hk138 : True := by
  k_with "mine subscriptTail" => ((k_here; k_dflt (refine' last_K ?N ?a ?z ?_ ?s ?g; (case N => k_asm); (case a => k_mem); (case z => assumption); (case s => with_unfolding_all rfl); (case g => (intro _; with_unfolding_all rfl)))))
  exact True.intro
theorem hk139 : True := by
  k_with "mine compareOp Eq ref ref" => ((k_here; k_dflt (refine' eq_nil_K ?N ?a ?b ?u ?_; (case N => k_asm); (case a => k_mem); (case b => k_mem); (case u => ktr_units))))
  exact True.intro

theorem number_g (w : World) (x dx : Addr) (z : Sc) (n : Int) (tn : Tok) (us : Array Value) (ep : Nat) (r : List Nat) (rest : List (Addr × Obj)) (hs : Sf z.T n r) (hne : r ≠ []) (hn2 : n ≤ 1000) (o1 : @LT.lt Nat _ dx x) (o2 : @LT.lt Nat _ x z.fl) (hr : ∀ p ∈ rest, p.1 ≠ dx) (hr2 : ∀ p ∈ rest, p.1 ≠ z.fl) (hus : us.size ≤ 100) :
    ConE w 4 60 217 [.ref x] ((x, instObj 269 dx) :: (dx, scD z n tn) :: (z.fl, listOf us ep) :: rest)
      (fun R => postOut x dx z n us ep rest (numO r) R) (fun R => epostOut rest (numO r) R) := by
  (unfold ConE; intro mean mg mb dp un gd cn cs a ccd cl outer A₀ base h₀ L m s Q E B F X N T hk hd hu hret hex)
  (refine wpAny_call ?_; k_dflt (refine' code_def ?k1 ?k2 ?k3 ?k4 ?k5 ?kA ?kF ?kK ?k6 ?k7 ?k8 ?k9 ?kB ?_ ?c2 ?c3 ?c4 ?c5; (case kA => exact rfl); (case kF => exact rfl); (case kK => assumption); (case k1 => k_asm); (case k2 => k_asm); (case k3 => k_asm); (case k4 => first | k_asm | exact drop1 (by k_asm) | exact drop2 (by k_asm)); (case k5 => k_asm); (case k6 => k_is); (case k7 => k_is); (case k8 => ktr_room); (case k9 => first | exact BindsTo.of_eq rfl | exact binds_K (by k_in) rfl (by k_is) rfl rfl rfl); (case c5 => decide); (case kB => exact locs rfl); (case c2 => exact rfl); (case c3 => exact rfl); (case c4 => exact rfl); k_whole; intro g' L' h' FG' F' N' B' X' T'))
  (revert FG' F' N' B' X' T'; revert B F X N T hk hd hu hret hex; revert mean mg mb dp un gd cn cs a ccd cl outer A₀ base h₀ L m s Q E g' L' h'; revert w x dx z n tn us ep r rest; refine ep10_all (by repeat' (first | exact ne_world | exact ne_sc | exact ⟨({} : Shared)⟩ | exact ⟨Wd.star⟩ | refine ne_pair ?_ ?_ | exact inferInstance)) ?_; intro eP eE; refine ((?eg1 : ∀ y0 y1 y2 y3 y4 y5 y6 y7 y8 y9, eP y0 y1 y2 y3 y4 y5 y6 y7 y8 y9) _ _ _ _ _ _ _ _ _ _); intro w x dx z n tn us ep r rest; subst eE; set_option tactic.hygienic false in intro; set_option tactic.hygienic false in intros; revert FG' F' N' B' X' T'; revert B F X N T hk hd hu hret hex; revert mean mg mb dp un gd cn cs a ccd cl outer A₀ base h₀ L m s Q E g' L' h'; refine amb_all ?_; intro eP eE; refine ((?eg2 : ∀ y0 y1 y2 y3 y4 y5 y6 y7 y8 y9 y10 y11 y12 y13 y14 y15 y16 y17 y18 y19 y20 y21 y22, eP y0 y1 y2 y3 y4 y5 y6 y7 y8 y9 y10 y11 y12 y13 y14 y15 y16 y17 y18 y19 y20 y21 y22) _ _ _ _ _ _ _ _ _ _ _ _ _ _ _ _ _ _ _ _ _ _ _); intro mean mg mb dp un gd cn cs a ccd cl outer A₀ base h₀ L m s Q E g' L' h'; subst eE; set_option tactic.hygienic false in intro; set_option tactic.hygienic false in intros; skip)
  ((try dsimp only); (try k_lift B'))
  have hT := hs.sz
  have hn := hs.nn
  have hs1 := hs.on (figN r)
  have hs2 : Sf z.T (n + (figN r : Int) + 1) (r.drop (figN r)).tail := by have := hs1.on 1; simpa using this
  have hf2 : figN (r.drop (figN r)).tail ≤ (r.drop (figN r)).tail.length := fig_le _
  have hf1 := fig_le r
  have hlen : (r.drop (figN r)).tail.length = r.length - figN r - 1 := by rw [List.length_tail, List.length_drop]
  cases h1 : (sgn (r.drop (figN r)) == Str.ofString ".") with
  | false =>
    have e : numN r = figN r := by simp only [numN, h1, Bool.false_and, Bool.false_eq_true, if_false]
    have hsl : Txt.slice z.T (some n) (some (n + (figN r : Int))) = txt (r.take (figN r)) := hs.slice (k := figN r) hf1 (fun h => absurd h hne)
    k_steps
    all_goals first | (refine' fin_word hret ?F ?N ?l1 ?l2 ?l3 ?e ?hn ?hk ?ht; (case F => k_asm); (case N => k_asm); (case l1 => assumption); (case l2 => assumption); (case l3 => assumption); (case hk => exact rfl); (case ht => exact hsl); (case hn => exact rfl); (case e => (simp only [numO, e, *, if_true, if_false, Bool.false_eq_true, Bool.and_true, Bool.true_and, Bool.and_false, Bool.false_and, Bool.not_true, Bool.not_false, Bool.or_false, Bool.false_or, Bool.or_true, Bool.true_or]))) | (refine' Fly.out (hex _ ?e) ?R ?FG ?sub; (case R => assumption); (case FG => assumption); (case sub => (intro p hp; (try simp only [List.mem_cons]); first | exact hp | exact .inr hp | exact .inr (.inr hp) | exact .inr (.inr (.inr hp)) | exact .inr (.inr (.inr (.inr hp))))); (case e => (simp only [numO, e, *, if_true, if_false, Bool.false_eq_true, Bool.and_true, Bool.true_and, Bool.and_false, Bool.false_and, Bool.not_true, Bool.not_false, Bool.or_false, Bool.false_or, Bool.or_true, Bool.true_or])))
  | true =>
    have hpos : figN r < r.length := by
      by_cases hlt : figN r < r.length
      · exact hlt
      · have : r.drop (figN r) = [] := List.drop_eq_nil_of_le (by omega)
        rw [this] at h1; cases h1
    cases h2 : (sgn (r.drop (figN r)).tail != Str.ofString ".") with
    | false =>
      have e : numN r = figN r := by simp only [numN, h1, h2, Bool.true_and, Bool.false_eq_true, if_false]
      have hsl : Txt.slice z.T (some n) (some (n + (figN r : Int))) = txt (r.take (figN r)) := hs.slice (k := figN r) hf1 (fun h => absurd h hne)
      k_steps
      all_goals first | (refine' fin_word hret ?F ?N ?l1 ?l2 ?l3 ?e ?hn ?hk ?ht; (case F => k_asm); (case N => k_asm); (case l1 => assumption); (case l2 => assumption); (case l3 => assumption); (case hk => exact rfl); (case ht => exact hsl); (case hn => exact rfl); (case e => (simp only [numO, e, *, if_true, if_false, Bool.false_eq_true, Bool.and_true, Bool.true_and, Bool.and_false, Bool.false_and, Bool.not_true, Bool.not_false, Bool.or_false, Bool.false_or, Bool.or_true, Bool.true_or]))) | (refine' Fly.out (hex _ ?e) ?R ?FG ?sub; (case R => assumption); (case FG => assumption); (case sub => (intro p hp; (try simp only [List.mem_cons]); first | exact hp | exact .inr hp | exact .inr (.inr hp) | exact .inr (.inr (.inr hp)) | exact .inr (.inr (.inr (.inr hp))))); (case e => (simp only [numO, e, *, if_true, if_false, Bool.false_eq_true, Bool.and_true, Bool.true_and, Bool.and_false, Bool.false_and, Bool.not_true, Bool.not_false, Bool.or_false, Bool.false_or, Bool.or_true, Bool.true_or])))
    | true =>
      have e : numN r = figN r + (1 + figN (r.drop (figN r)).tail) := by simp only [numN, h1, h2, Bool.true_and, if_true]
      have en : n + (figN r : Int) + 1 + (figN (r.drop (figN r)).tail : Int) = n + ((figN r + (1 + figN (r.drop (figN r)).tail) : Nat) : Int) := by omega
      have hsl : Txt.slice z.T (some n) (some (n + ((figN r + (1 + figN (r.drop (figN r)).tail) : Nat) : Int))) = txt (r.take (figN r + (1 + figN (r.drop (figN r)).tail))) := hs.slice (k := figN r + (1 + figN (r.drop (figN r)).tail)) (by omega) (fun h => absurd h hne)
      rw [← en] at hsl
      k_steps
      all_goals first | (refine' fin_word hret ?F ?N ?l1 ?l2 ?l3 ?e ?hn ?hk ?ht; (case F => k_asm); (case N => k_asm); (case l1 => assumption); (case l2 => assumption); (case l3 => assumption); (case hk => exact rfl); (case ht => exact hsl); (case hn => exact en); (case e => (simp only [numO, e, *, if_true, if_false, Bool.false_eq_true, Bool.and_true, Bool.true_and, Bool.and_false, Bool.false_and, Bool.not_true, Bool.not_false, Bool.or_false, Bool.false_or, Bool.or_true, Bool.true_or]))) | (refine' Fly.out (hex _ ?e) ?R ?FG ?sub; (case R => assumption); (case FG => assumption); (case sub => (intro p hp; (try simp only [List.mem_cons]); first | exact hp | exact .inr hp | exact .inr (.inr hp) | exact .inr (.inr (.inr hp)) | exact .inr (.inr (.inr (.inr hp))))); (case e => (simp only [numO, e, *, if_true, if_false, Bool.false_eq_true, Bool.and_true, Bool.true_and, Bool.and_false, Bool.false_and, Bool.not_true, Bool.not_false, Bool.or_false, Bool.false_or, Bool.or_true, Bool.true_or])))
theorem number_c (w : World) (x dx : Addr) (z : Sc) (n : Int) (tn : Tok) (us : Array Value) (ep : Nat) (c : Nat) (r : List Nat) (rest : List (Addr × Obj)) (hs : Sf z.T n (c :: r)) (o1 : @LT.lt Nat _ dx x) (o2 : @LT.lt Nat _ x z.fl) (hr : ∀ p ∈ rest, p.1 ≠ dx) (hr2 : ∀ p ∈ rest, p.1 ≠ z.fl) (hus : us.size ≤ 100) (o : Out) (ho : numO (c :: r) = o) :
    ConE w 4 60 217 [.ref x] ((x, instObj 269 dx) :: (dx, scD z n tn) :: (z.fl, listOf us ep) :: rest)
      (fun R => postOut x dx z n us ep rest o R) (fun R => epostOut rest o R) := by
  subst ho
  exact number_g w x dx z n tn us ep (c :: r) rest hs (by simp) (hs.n1000 (by simp)) o1 o2 hr hr2 hus
theorem hk140 : True := by
  k_with "mine call ref" => ((k_here; (k_dflt (show wpAny _ _ (call (Value.ref 217) _) _ _ _)); k_dflt (refine' useEA (C := number_c _ _ _ _ _ _ _ _ _ _ _ (by assumption) (by first | assumption | omega) (by first | assumption | omega) (by first | assumption | k_all) (by first | assumption | k_all) (by assumption) _ (by first | assumption | exact rfl)) (hp := ?_) (he := ?_)); (rotate_left; (intro msg'_q hm'_q e'_q h'_q tk'_q R'_q Ns'_q); rotate_left; intro kind'_q text'_q k'_q ho'_q y'_q t'_q l1_q l2_q l3_q h'_q tk'_q F'_q N'_q)))
  exact True.intro

-- B5
theorem hk172 : True := by
  k_with_none
  exact True.intro
theorem hk142 : True := by
  k_with "mine call ref" => ((k_here; (k_dflt (show wpAny _ _ (call (Value.ref 52) _) _ _ _)); k_dflt (refine' useU (C := is_space_c _ _ _ _ _ (by first | assumption | exact rfl)) (hp := ?_)); intro h'_q tk'_q F'_q N'_q))
  exact True.intro
theorem hk143 : True := by
  k_with "mine call ref" => ((k_here; (k_dflt (show wpAny _ _ (call (Value.ref 66) _) _ _ _)); k_dflt (refine' useU (C := is_name_start_c _ _ _ _ _ (by first | assumption | exact Sf.head (by assumption)) (by first | assumption | exact rfl)) (hp := ?_)); intro h'_q tk'_q F'_q N'_q))
  exact True.intro
theorem hk144 : True := by
  k_with "mine call ref" => ((k_here; (k_dflt (show wpAny _ _ (call (Value.ref 73) _) _ _ _)); k_dflt (refine' useU (C := is_name_char_c _ _ _ _ _ (by first | assumption | exact Sf.head (by assumption)) (by first | assumption | exact rfl)) (hp := ?_)); intro h'_q tk'_q F'_q N'_q))
  exact True.intro
theorem hk145 : True := by
  k_with "mine k_all" => (assumption)
  exact True.intro
theorem hk146 : True := by
  k_with "mine k_room" => (ktr_room)
  exact True.intro
theorem hk147 : True := by
  k_with "mine k_units" => (ktr_units)
  exact True.intro

theorem hk148 : True := by
  k_with "mine call ref" => ((k_here; (k_dflt (show wpAny _ _ (call (Value.ref 175) _) _ _ _)); k_dflt (refine' useU (C := sign0_c _ _ _ _ _ _ _ _ (by assumption)) (hp := ?_)); intro t'_q h'_q tk'_q F'_q N'_q))
  exact True.intro
theorem hk149 : True := by
  k_with "mine call ref" => ((k_here; (k_dflt (show wpAny _ _ (call (Value.ref 175) _) _ _ _)); k_dflt (refine' useU (C := sign1_c _ _ _ _ _ _ _ _ _ (by assumption)) (hp := ?_)); intro t'_q h'_q tk'_q F'_q N'_q))
  exact True.intro
theorem hk150 : True := by
  k_with "mine call ref" => ((k_here; (k_dflt (show wpAny _ _ (call (Value.ref 196) _) _ _ _)); k_dflt (refine' useU (C := skip_c _ _ _ _ _ _ _ _ (by assumption) (by first | assumption | k_ne) (by first | assumption | k_all)) (hp := ?_)); intro t'_q h'_q tk'_q F'_q N'_q))
  exact True.intro
theorem hk151 : True := by
  k_with "mine call ref" => ((k_here; (k_dflt (show wpAny _ _ (call (Value.ref 224) _) _ _ _)); k_dflt (refine' useU (C := figures_c _ _ _ _ _ _ _ _ (by assumption) (by first | assumption | k_ne) (by first | assumption | k_all)) (hp := ?_)); intro t'_q h'_q tk'_q F'_q N'_q))
  exact True.intro
theorem hk152 : True := by
  k_with "mine exec While" => ((k_here; (refine whl_start 0 (Hold.out ?_))))
  exact True.intro
theorem hk153 : True := by
  k_with "mine exec While Compare" => ((k_here; (refine whl_start 0 (Hold.out ?_))))
  exact True.intro
theorem hk154 : True := by
  k_with "mine exec While Compare cons nil" => ((k_here; (refine whl_start 0 (Hold.out ?_))))
  exact True.intro
theorem hk155 : True := by
  k_with "mine exec While BoolOp" => ((k_here; (refine whl_start 0 (Hold.out ?_))))
  exact True.intro
theorem hk156 : True := by
  k_with "mine subscriptTail" => ((k_here; (with_reducible show wpAny _ _ (subscriptTail _ _ (Value.str _ _) (Value.int _ _)) _ _ _); (refine sub_at (by assumption) ?_); intro t'_q k'_q))
  exact True.intro
theorem hk157 : True := by
  k_with "mine subscriptTail" => ((k_here; (with_reducible show wpAny _ _ (subscriptTail _ (PySem.Expr.Slice (some _) (some _) none _) (Value.str _ _) (Value.ref _)) _ _ _); (with_reducible rename Fr _ _ _ _ => F'_q); (with_reducible rename News _ _ _ _ => N'_q); (refine slice_strN_ss (hsz := ?hsz) (s := ⟨_, _, _, _, _⟩) F'_q N'_q ?_); (case hsz => (simp only [PySem.sizeLine_eq]; omega)); intro _ _ _ _ _))
  exact True.intro
theorem hk158 : True := by
  k_with "mine WhlIf" => (first | (refine WhlIf.yes (decide_eq_true (by assumption)) ?_) | (refine WhlIf.no (decide_eq_false (by assumption)) ?_))
  exact True.intro

theorem hk159 : True := by
  k_with "mine call ref" => ((k_here; (k_dflt (show wpAny _ _ (call (Value.ref 182) _) _ _ _)); k_dflt (refine' useU (C := add_c _ _ _ _ _ _ _ _ _ _ _ _ _ _ _ (by first | assumption | omega) (by first | assumption | omega) (by first | assumption | k_all) (by assumption)) (hp := ?_)); intro y'_q l1_q l2_q l3_q h'_q tk'_q F'_q N'_q))
  exact True.intro
theorem hk160 : True := by
  k_with "mine call ref" => ((k_here; (k_dflt (show wpAny _ _ (call (Value.ref 245) _) _ _ _)); k_dflt (refine' useU (C := plain_name_c _ _ _ _ _ _ _ _ (by assumption) (by first | assumption | k_ne) (by first | assumption | k_all)) (hp := ?_)); intro t1'_q t2'_q h'_q tk'_q F'_q N'_q))
  exact True.intro

theorem hk161 : True := by
  k_with "mine call ref" => ((k_here; (k_dflt (show wpAny _ _ (call (Value.ref 103) _) _ _ _)); k_dflt (refine' useEA (C := fault_c _ _ _ _) (hp := ?_) (he := ?_)); (rotate_left; exact True.intro); intro y'_q l1_q h'_q tk'_q F'_q N'_q))
  exact True.intro
theorem hk162 : True := by
  k_with "mine exec Raise some none" => ((k_here; k_dflt (refine' Raise_fault ?kX ?hh ?hsub ?hty ?_; (case kX => k_asm); (case hh => first | rfl | assumption); (case hsub => k_is); (case hty => k_is))))
  exact True.intro
theorem hk163 : True := by
  k_with "mine RaisF" => ((k_dflt (refine' raisF ?X ?F ?N ?_; (case F => k_asm); (case N => k_asm); (case X => k_asm))))
  exact True.intro
theorem hk164 : True := by
  k_with "mine leaving ref" => ((k_here; k_dflt (first
  | (refine' leave_first ?K ?F ?N ?lt ?_; (case K => k_asm); (case F => k_asm); (case N => k_asm); (case lt => assumption); intro h'_q R'_q)
  | (refine' leave_next ?K ?F ?R ?_; (case K => k_asm); (case F => k_asm); (case R => assumption); intro h'_q R'_q)); (try dsimp only)))
  exact True.intro

theorem hk165 : True := by
  k_with "mine units_room" => (ktr_units)
  exact True.intro
theorem hk166 : True := by
  k_with "mine compareOp In str ref" => ((k_here; k_dflt (refine' in_tup_K ?X ?F ?o ?i ?_; (case F => k_asm); (case X => k_asm); (case o => k_is); (case i => (repeat constructor)))))
  exact True.intro
theorem hk167 : True := by
  k_with "mine compareOp NotIn str ref" => ((k_here; k_dflt (refine' notin_tup_K ?X ?F ?o ?i ?_; (case F => k_asm); (case X => k_asm); (case o => k_is); (case i => (repeat constructor)))))
  exact True.intro
theorem hk168 : True := by
  k_with "mine compareOp Eq ref ref" => ((k_here; k_dflt (refine' eq_lens_K ?N ?a ?b ?z ?u ?_; (case N => k_asm); (case a => k_mem); (case b => k_mem); (case z => simp); (case u => ktr_units))))
  exact True.intro
theorem hk169 : True := by
  k_with "mine subscriptTail" => ((k_here; k_dflt (refine' last_K ?N ?a ?z ?_ ?s ?g; (case N => k_asm); (case a => k_mem); (case z => assumption); (case s => with_unfolding_all rfl); (case g => (intro _; with_unfolding_all rfl)))))
  exact True.intro
theorem hk170 : True := by
  k_with "mine compareOp Eq ref ref" => ((k_here; k_dflt (refine' eq_nil_K ?N ?a ?b ?u ?_; (case N => k_asm); (case a => k_mem); (case b => k_mem); (case u => ktr_units))))
  exact True.intro

abbrev BehC (w : World) (x dx : Addr) (z : Sc) (us : Array Value) (ep : Nat) (rest : List (Addr × Obj)) (b : Bool) : Prop :=
  ∀ (n : Int) (tn : Tok), Con w 2 16 203 [.ref x] ((x, instObj 269 dx) :: (dx, scD z n tn) :: (z.fl, listOf us ep) :: rest)
      (fun R => R (.bool b) ((x, instObj 269 dx) :: (dx, scD z n tn) :: (z.fl, listOf us ep) :: rest)) (fun _ => True)
theorem BehC.out {w : World} {x dx : Addr} {z : Sc} {us : Array Value} {ep : Nat} {rest : List (Addr × Obj)} {b : Bool} (h : BehC w x dx z us ep rest b) (n : Int) (tn : Tok) : Con w 2 16 203 [.ref x] ((x, instObj 269 dx) :: (dx, scD z n tn) :: (z.fl, listOf us ep) :: rest)
      (fun R => R (.bool b) ((x, instObj 269 dx) :: (dx, scD z n tn) :: (z.fl, listOf us ep) :: rest)) (fun _ => True) := h n tn
theorem behind_nil_c (w : World) (x dx : Addr) (z : Sc) (ep : Nat) (rest : List (Addr × Obj)) : BehC w x dx z #[] ep rest false := by
  intro n tn
  (unfold Con; intro mean mg mb dp un gd cn cs a ccd cl outer A₀ base h₀ L m s Q E B F X N T hk hd hu hret hex)
  (refine wpAny_call ?_; k_dflt (refine' code_def ?k1 ?k2 ?k3 ?k4 ?k5 ?kA ?kF ?kK ?k6 ?k7 ?k8 ?k9 ?kB ?_ ?c2 ?c3 ?c4 ?c5; (case kA => exact rfl); (case kF => exact rfl); (case kK => assumption); (case k1 => k_asm); (case k2 => k_asm); (case k3 => k_asm); (case k4 => first | k_asm | exact drop1 (by k_asm) | exact drop2 (by k_asm)); (case k5 => k_asm); (case k6 => k_is); (case k7 => k_is); (case k8 => ktr_room); (case k9 => first | exact BindsTo.of_eq rfl | exact binds_K (by k_in) rfl (by k_is) rfl rfl rfl); (case c5 => decide); (case kB => exact locs rfl); (case c2 => exact rfl); (case c3 => exact rfl); (case c4 => exact rfl); k_whole; intro g' L' h' FG' F' N' B' X' T'; (try dsimp only); (try k_lift B'); (try k_fold)))
  k_steps
  exact fin hret (by k_asm) (by k_asm) (fun p hp => List.mem_cons_of_mem _ hp) rfl
theorem behind_c (w : World) (x dx : Addr) (z : Sc) (ep : Nat) (us : Array Value) (y : Wk) (kind text : Str) (place : Int) (rest : List (Addr × Obj)) (hus : us.size ≤ 100) (b : Bool) (hb : behF kind text = b) :
    BehC w x dx z (us.push (.ref y.a)) ep ((y.a, instObj 149 y.d) :: (y.d, wdD y kind text place) :: rest) b := by
  subst hb
  intro n tn
  (unfold Con; intro mean mg mb dp un gd cn cs a ccd cl outer A₀ base h₀ L m s Q E B F X N T hk hd hu hret hex)
  (refine wpAny_call ?_; k_dflt (refine' code_def ?k1 ?k2 ?k3 ?k4 ?k5 ?kA ?kF ?kK ?k6 ?k7 ?k8 ?k9 ?kB ?_ ?c2 ?c3 ?c4 ?c5; (case kA => exact rfl); (case kF => exact rfl); (case kK => assumption); (case k1 => k_asm); (case k2 => k_asm); (case k3 => k_asm); (case k4 => first | k_asm | exact drop1 (by k_asm) | exact drop2 (by k_asm)); (case k5 => k_asm); (case k6 => k_is); (case k7 => k_is); (case k8 => ktr_room); (case k9 => first | exact BindsTo.of_eq rfl | exact binds_K (by k_in) rfl (by k_is) rfl rfl rfl); (case c5 => decide); (case kB => exact locs rfl); (case c2 => exact rfl); (case c3 => exact rfl); (case c4 => exact rfl); k_whole; intro g' L' h' FG' F' N' B' X' T'; (try dsimp only); (try k_lift B'); (try k_fold)))
  k_steps
  all_goals (refine fin hret (by k_asm) (by k_asm) (fun p hp => List.mem_cons_of_mem _ hp) ?_)
  all_goals (refine congrArg Value.bool ?_; simp only [behF, *, Bool.true_and, Bool.false_and, Bool.not_true, Bool.not_false])
theorem hk171 : True := by
  k_with "mine call ref" => ((k_here; (k_dflt (show wpAny _ _ (call (Value.ref 203) _) _ _ _)); k_dflt (refine' useU (C := BehC.out (by assumption) _ _) (hp := ?_)); intro h'_q tk'_q F'_q N'_q))
  exact True.intro

-- B6
theorem hk203 : True := by
  k_with_none
  exact True.intro
theorem hk173 : True := by
  k_with "mine call ref" => ((k_here; (k_dflt (show wpAny _ _ (call (Value.ref 52) _) _ _ _)); k_dflt (refine' useU (C := is_space_c _ _ _ _ _ (by first | assumption | exact rfl)) (hp := ?_)); intro h'_q tk'_q F'_q N'_q))
  exact True.intro
theorem hk174 : True := by
  k_with "mine call ref" => ((k_here; (k_dflt (show wpAny _ _ (call (Value.ref 66) _) _ _ _)); k_dflt (refine' useU (C := is_name_start_c _ _ _ _ _ (by first | assumption | exact Sf.head (by assumption)) (by first | assumption | exact rfl)) (hp := ?_)); intro h'_q tk'_q F'_q N'_q))
  exact True.intro
theorem hk175 : True := by
  k_with "mine call ref" => ((k_here; (k_dflt (show wpAny _ _ (call (Value.ref 73) _) _ _ _)); k_dflt (refine' useU (C := is_name_char_c _ _ _ _ _ (by first | assumption | exact Sf.head (by assumption)) (by first | assumption | exact rfl)) (hp := ?_)); intro h'_q tk'_q F'_q N'_q))
  exact True.intro
theorem hk176 : True := by
  k_with "mine k_all" => (assumption)
  exact True.intro
theorem hk177 : True := by
  k_with "mine k_room" => (ktr_room)
  exact True.intro
theorem hk178 : True := by
  k_with "mine k_units" => (ktr_units)
  exact True.intro

theorem hk179 : True := by
  k_with "mine call ref" => ((k_here; (k_dflt (show wpAny _ _ (call (Value.ref 175) _) _ _ _)); k_dflt (refine' useU (C := sign0_c _ _ _ _ _ _ _ _ (by assumption)) (hp := ?_)); intro t'_q h'_q tk'_q F'_q N'_q))
  exact True.intro
theorem hk180 : True := by
  k_with "mine call ref" => ((k_here; (k_dflt (show wpAny _ _ (call (Value.ref 175) _) _ _ _)); k_dflt (refine' useU (C := sign1_c _ _ _ _ _ _ _ _ _ (by assumption)) (hp := ?_)); intro t'_q h'_q tk'_q F'_q N'_q))
  exact True.intro
theorem hk181 : True := by
  k_with "mine call ref" => ((k_here; (k_dflt (show wpAny _ _ (call (Value.ref 196) _) _ _ _)); k_dflt (refine' useU (C := skip_c _ _ _ _ _ _ _ _ (by assumption) (by first | assumption | k_ne) (by first | assumption | k_all)) (hp := ?_)); intro t'_q h'_q tk'_q F'_q N'_q))
  exact True.intro
theorem hk182 : True := by
  k_with "mine call ref" => ((k_here; (k_dflt (show wpAny _ _ (call (Value.ref 224) _) _ _ _)); k_dflt (refine' useU (C := figures_c _ _ _ _ _ _ _ _ (by assumption) (by first | assumption | k_ne) (by first | assumption | k_all)) (hp := ?_)); intro t'_q h'_q tk'_q F'_q N'_q))
  exact True.intro
theorem hk183 : True := by
  k_with "mine exec While" => ((k_here; (refine whl_start 0 (Hold.out ?_))))
  exact True.intro
theorem hk184 : True := by
  k_with "mine exec While Compare" => ((k_here; (refine whl_start 0 (Hold.out ?_))))
  exact True.intro
theorem hk185 : True := by
  k_with "mine exec While Compare cons nil" => ((k_here; (refine whl_start 0 (Hold.out ?_))))
  exact True.intro
theorem hk186 : True := by
  k_with "mine exec While BoolOp" => ((k_here; (refine whl_start 0 (Hold.out ?_))))
  exact True.intro
theorem hk187 : True := by
  k_with "mine subscriptTail" => ((k_here; (with_reducible show wpAny _ _ (subscriptTail _ _ (Value.str _ _) (Value.int _ _)) _ _ _); (refine sub_at (by assumption) ?_); intro t'_q k'_q))
  exact True.intro
theorem hk188 : True := by
  k_with "mine subscriptTail" => ((k_here; (with_reducible show wpAny _ _ (subscriptTail _ (PySem.Expr.Slice (some _) (some _) none _) (Value.str _ _) (Value.ref _)) _ _ _); (with_reducible rename Fr _ _ _ _ => F'_q); (with_reducible rename News _ _ _ _ => N'_q); (refine slice_strN_ss (hsz := ?hsz) (s := ⟨_, _, _, _, _⟩) F'_q N'_q ?_); (case hsz => (simp only [PySem.sizeLine_eq]; omega)); intro _ _ _ _ _))
  exact True.intro
theorem hk189 : True := by
  k_with "mine WhlIf" => (first | (refine WhlIf.yes (decide_eq_true (by assumption)) ?_) | (refine WhlIf.no (decide_eq_false (by assumption)) ?_))
  exact True.intro

theorem hk190 : True := by
  k_with "mine call ref" => ((k_here; (k_dflt (show wpAny _ _ (call (Value.ref 182) _) _ _ _)); k_dflt (refine' useU (C := add_c _ _ _ _ _ _ _ _ _ _ _ _ _ _ _ (by first | assumption | omega) (by first | assumption | omega) (by first | assumption | k_all) (by assumption)) (hp := ?_)); intro y'_q l1_q l2_q l3_q h'_q tk'_q F'_q N'_q))
  exact True.intro
theorem hk191 : True := by
  k_with "mine call ref" => ((k_here; (k_dflt (show wpAny _ _ (call (Value.ref 245) _) _ _ _)); k_dflt (refine' useU (C := plain_name_c _ _ _ _ _ _ _ _ (by assumption) (by first | assumption | k_ne) (by first | assumption | k_all)) (hp := ?_)); intro t1'_q t2'_q h'_q tk'_q F'_q N'_q))
  exact True.intro

theorem hk192 : True := by
  k_with "mine call ref" => ((k_here; (k_dflt (show wpAny _ _ (call (Value.ref 103) _) _ _ _)); k_dflt (refine' useEA (C := fault_c _ _ _ _) (hp := ?_) (he := ?_)); (rotate_left; exact True.intro); intro y'_q l1_q h'_q tk'_q F'_q N'_q))
  exact True.intro
theorem hk193 : True := by
  k_with "mine exec Raise some none" => ((k_here; k_dflt (refine' Raise_fault ?kX ?hh ?hsub ?hty ?_; (case kX => k_asm); (case hh => first | rfl | assumption); (case hsub => k_is); (case hty => k_is))))
  exact True.intro
theorem hk194 : True := by
  k_with "mine RaisF" => ((k_dflt (refine' raisF ?X ?F ?N ?_; (case F => k_asm); (case N => k_asm); (case X => k_asm))))
  exact True.intro
theorem hk195 : True := by
  k_with "mine leaving ref" => ((k_here; k_dflt (first
  | (refine' leave_first ?K ?F ?N ?lt ?_; (case K => k_asm); (case F => k_asm); (case N => k_asm); (case lt => assumption); intro h'_q R'_q)
  | (refine' leave_next ?K ?F ?R ?_; (case K => k_asm); (case F => k_asm); (case R => assumption); intro h'_q R'_q)); (try dsimp only)))
  exact True.intro

theorem hk196 : True := by
  k_with "mine units_room" => (ktr_units)
  exact True.intro
theorem hk197 : True := by
  k_with "mine compareOp In str ref" => ((k_here; k_dflt (refine' in_tup_K ?X ?F ?o ?i ?_; (case F => k_asm); (case X => k_asm); (case o => k_is); (case i => (repeat constructor)))))
  exact True.intro
theorem hk198 : True := by
  k_with "mine compareOp NotIn str ref" => ((k_here; k_dflt (refine' notin_tup_K ?X ?F ?o ?i ?_; (case F => k_asm); (case X => k_asm); (case o => k_is); (case i => (repeat constructor)))))
  exact True.intro
theorem hk199 : True := by
  k_with "mine compareOp Eq ref ref" => ((k_here; k_dflt (refine' eq_lens_K ?N ?a ?b ?z ?u ?_; (case N => k_asm); (case a => k_mem); (case b => k_mem); (case z => simp); (case u => ktr_units))))
  exact True.intro
theorem hk200 : True := by
  k_with "mine subscriptTail" => ((k_here; k_dflt (refine' last_K ?N ?a ?z ?_ ?s ?g; (case N => k_asm); (case a => k_mem); (case z => assumption); (case s => with_unfolding_all rfl); (case g => (intro _; with_unfolding_all rfl)))))
  exact True.intro
theorem hk201 : True := by
  k_with "mine compareOp Eq ref ref" => ((k_here; k_dflt (refine' eq_nil_K ?N ?a ?b ?u ?_; (case N => k_asm); (case a => k_mem); (case b => k_mem); (case u => ktr_units))))
  exact True.intro

theorem bad_ok {k k' : Nat} {name : Str} {P : Prop} (h : Qual.bad k = .ok name k') : P := nomatch h
theorem ok_bad {k k' : Nat} {name : Str} {P : Prop} (h : Qual.ok name k' = .bad k) : P := nomatch h
theorem fin_qual {x dx : Addr} {z : Sc} {n n' : Int} {rest : List (Addr × Obj)} {name : Str} {k : Nat} {q : Qual} {h₀ : Heap} {L : Addr} {m : Str → Option Value} {s : Shared} {Q : Value → Shared → Prop} {h' : Heap} {tk : Nat} {t t2 : Tok}
    (hret : ∀ name k, q = .ok name k → ∀ t t2, Ret h₀ L m s Q (.str name t2) ((x, instObj 269 dx) :: (dx, scD z (n + (k : Int)) t) :: rest)) (F : Fr h₀ L h' m) (N : News h₀ L h' ((x, instObj 269 dx) :: (dx, scD z n' t) :: rest))
    (e : q = .ok name k) (hn : n' = n + (k : Int)) : Q (.str name t2) { s with heap := h', toks := tk } := by
  subst hn
  exact hret _ _ e t t2 h' tk F N
theorem qual_c (w : World) (x dx : Addr) (z : Sc) (n : Int) (tn : Tok) (r : List Nat) (rest : List (Addr × Obj)) (hs : Sf z.T n r) (hn1 : n ≤ 1000) (hx : @Ne Nat x dx) (hr : ∀ p ∈ rest, p.1 ≠ dx) (q : Qual) (hq : qual r = q) :
    ConE w 5 80 252 [.ref x] ((x, instObj 269 dx) :: (dx, scD z n tn) :: rest)
      (fun R => ∀ name k, q = .ok name k → ∀ t t2, R (.str name t2) ((x, instObj 269 dx) :: (dx, scD z (n + (k : Int)) t) :: rest))
      (fun R => ∀ k, q = .bad k → R (Str.ofString "a name is missing behind a colon at " ++ Str.ofString (toString (n + (k : Int)))) rest) := by
  subst hq
  (unfold ConE; intro mean mg mb dp un gd cn cs a ccd cl outer A₀ base h₀ L m s Q E B F X N T hk hd hu hret hex)
  (refine wpAny_call ?_; k_dflt (refine' code_def ?k1 ?k2 ?k3 ?k4 ?k5 ?kA ?kF ?kK ?k6 ?k7 ?k8 ?k9 ?kB ?_ ?c2 ?c3 ?c4 ?c5; (case kA => exact rfl); (case kF => exact rfl); (case kK => assumption); (case k1 => k_asm); (case k2 => k_asm); (case k3 => k_asm); (case k4 => first | k_asm | exact drop1 (by k_asm) | exact drop2 (by k_asm)); (case k5 => k_asm); (case k6 => k_is); (case k7 => k_is); (case k8 => ktr_room); (case k9 => first | exact BindsTo.of_eq rfl | exact binds_K (by k_in) rfl (by k_is) rfl rfl rfl); (case c5 => decide); (case kB => exact locs rfl); (case c2 => exact rfl); (case c3 => exact rfl); (case c4 => exact rfl); k_whole; intro g' L' h' FG' F' N' B' X' T'))
  (revert FG' F' N' B' X' T'; revert B F X N T hk hd hu hret hex; revert mean mg mb dp un gd cn cs a ccd cl outer A₀ base h₀ L m s Q E g' L' h'; revert w x dx z n tn r rest; refine ep8_all (by repeat' (first | exact ne_world | exact ne_sc | exact ⟨({} : Shared)⟩ | exact ⟨Wd.star⟩ | refine ne_pair ?_ ?_ | exact inferInstance)) ?_; intro eP eE; refine ((?eg1 : ∀ y0 y1 y2 y3 y4 y5 y6 y7, eP y0 y1 y2 y3 y4 y5 y6 y7) _ _ _ _ _ _ _ _); intro w x dx z n tn r rest; subst eE; set_option tactic.hygienic false in intro; set_option tactic.hygienic false in intros; revert FG' F' N' B' X' T'; revert B F X N T hk hd hu hret hex; revert mean mg mb dp un gd cn cs a ccd cl outer A₀ base h₀ L m s Q E g' L' h'; refine amb_all ?_; intro eP eE; refine ((?eg2 : ∀ y0 y1 y2 y3 y4 y5 y6 y7 y8 y9 y10 y11 y12 y13 y14 y15 y16 y17 y18 y19 y20 y21 y22, eP y0 y1 y2 y3 y4 y5 y6 y7 y8 y9 y10 y11 y12 y13 y14 y15 y16 y17 y18 y19 y20 y21 y22) _ _ _ _ _ _ _ _ _ _ _ _ _ _ _ _ _ _ _ _ _ _ _); intro mean mg mb dp un gd cn cs a ccd cl outer A₀ base h₀ L m s Q E g' L' h'; subst eE; set_option tactic.hygienic false in intro; set_option tactic.hygienic false in intros; skip)
  ((try dsimp only); (try k_lift B'))
  have hT := hs.sz
  have hn := hs.nn
  have hle := nm_le r
  have hsz := hs.size
  have hs1 := hs.on (nmN r)
  have hs2 : Sf z.T (n + (nmN r : Int) + 1) (r.drop (nmN r)).tail := by have := hs1.on 1; simpa using this
  have hle2 := nm_le (r.drop (nmN r)).tail
  have hl1 := hs.len1000
  have hl2 := hs2.len1000
  have ht1 := hs.txt1000 (nmN r)
  have ht2 := hs2.txt1000 (nmN (r.drop (nmN r)).tail)
  have en : n + (nmN r : Int) + 1 + (nmN (r.drop (nmN r)).tail : Int) = n + ((nmN r + 1 + nmN (r.drop (nmN r)).tail : Nat) : Int) := by omega
  have en2 : n + (nmN r : Int) + 1 + 1 = n + ((nmN r + 1 + 1 : Nat) : Int) := by omega
  have hex' := hex (nmN r + 1 + nmN (r.drop (nmN r)).tail)
  rw [← en] at hex'
  k_steps
  all_goals first
    | (refine' fin_qual hret ?F ?N ?e ?hn; (case F => k_asm); (case N => k_asm); (case hn => exact rfl); (case e => (simp only [qual, *, if_true, if_false, Bool.false_eq_true, Bool.and_true, Bool.true_and, Bool.and_false, Bool.false_and, Bool.not_true, Bool.not_false, Bool.or_false, Bool.false_or, Bool.or_true, Bool.true_or])))
    | (refine' fin_qual hret ?F ?N ?e ?hn; (case F => k_asm); (case N => k_asm); (case hn => exact en); (case e => (simp only [qual, *, if_true, if_false, Bool.false_eq_true, Bool.and_true, Bool.true_and, Bool.and_false, Bool.false_and, Bool.not_true, Bool.not_false, Bool.or_false, Bool.false_or, Bool.or_true, Bool.true_or])))
    | (refine' fin_qual hret ?F ?N ?e ?hn; (case F => k_asm); (case N => k_asm); (case hn => exact en2); (case e => (simp only [qual, *, if_true, if_false, Bool.false_eq_true, Bool.and_true, Bool.true_and, Bool.and_false, Bool.false_and, Bool.not_true, Bool.not_false, Bool.or_false, Bool.false_or, Bool.or_true, Bool.true_or])))
    | (refine' Fly.out (hex' ?e) ?R ?FG ?sub; (case R => assumption); (case FG => assumption); (case sub => (intro p hp; (try simp only [List.mem_cons]); first | exact hp | exact .inr hp | exact .inr (.inr hp) | exact .inr (.inr (.inr hp)) | exact .inr (.inr (.inr (.inr hp))))); (case e => (simp only [qual, *, if_true, if_false, Bool.false_eq_true, Bool.and_true, Bool.true_and, Bool.and_false, Bool.false_and, Bool.not_true, Bool.not_false, Bool.or_false, Bool.false_or, Bool.or_true, Bool.true_or])))
theorem hk202 : True := by
  k_with "mine call ref" => ((k_here; (k_dflt (show wpAny _ _ (call (Value.ref 252) _) _ _ _)); k_dflt (refine' useEA (C := qual_c _ _ _ _ _ _ _ _ (by assumption) (by omega) (by first | assumption | k_ne) (by first | assumption | k_all) _ (by first | assumption | exact rfl)) (hp := ?_) (he := ?_)); (rotate_left; (intro k'_q hq'_q; first | exact ok_bad hq'_q | ((try cases hq'_q); intro e'_q h'_q tk'_q R'_q Ns'_q)); rotate_left; (intro name'_q k'_q hq'_q; first | exact bad_ok hq'_q | ((try cases hq'_q); intro t1'_q t2'_q h'_q tk'_q F'_q N'_q)))))
  exact True.intro

-- B7
theorem hk238 : True := by
  k_with_none
  exact True.intro
theorem hk204 : True := by
  k_with "mine call ref" => ((k_here; (k_dflt (show wpAny _ _ (call (Value.ref 52) _) _ _ _)); k_dflt (refine' useU (C := is_space_c _ _ _ _ _ (by first | assumption | exact rfl)) (hp := ?_)); intro h'_q tk'_q F'_q N'_q))
  exact True.intro
theorem hk205 : True := by
  k_with "mine call ref" => ((k_here; (k_dflt (show wpAny _ _ (call (Value.ref 66) _) _ _ _)); k_dflt (refine' useU (C := is_name_start_c _ _ _ _ _ (by first | assumption | exact Sf.head (by assumption)) (by first | assumption | exact rfl)) (hp := ?_)); intro h'_q tk'_q F'_q N'_q))
  exact True.intro
theorem hk206 : True := by
  k_with "mine call ref" => ((k_here; (k_dflt (show wpAny _ _ (call (Value.ref 73) _) _ _ _)); k_dflt (refine' useU (C := is_name_char_c _ _ _ _ _ (by first | assumption | exact Sf.head (by assumption)) (by first | assumption | exact rfl)) (hp := ?_)); intro h'_q tk'_q F'_q N'_q))
  exact True.intro
theorem hk207 : True := by
  k_with "mine k_all" => (assumption)
  exact True.intro
theorem hk208 : True := by
  k_with "mine k_room" => (ktr_room)
  exact True.intro
theorem hk209 : True := by
  k_with "mine k_units" => (ktr_units)
  exact True.intro

theorem hk210 : True := by
  k_with "mine call ref" => ((k_here; (k_dflt (show wpAny _ _ (call (Value.ref 175) _) _ _ _)); k_dflt (refine' useU (C := sign0_c _ _ _ _ _ _ _ _ (by assumption)) (hp := ?_)); intro t'_q h'_q tk'_q F'_q N'_q))
  exact True.intro
theorem hk211 : True := by
  k_with "mine call ref" => ((k_here; (k_dflt (show wpAny _ _ (call (Value.ref 175) _) _ _ _)); k_dflt (refine' useU (C := sign1_c _ _ _ _ _ _ _ _ _ (by assumption)) (hp := ?_)); intro t'_q h'_q tk'_q F'_q N'_q))
  exact True.intro
theorem hk212 : True := by
  k_with "mine call ref" => ((k_here; (k_dflt (show wpAny _ _ (call (Value.ref 196) _) _ _ _)); k_dflt (refine' useU (C := skip_c _ _ _ _ _ _ _ _ (by assumption) (by first | assumption | k_ne) (by first | assumption | k_all)) (hp := ?_)); intro t'_q h'_q tk'_q F'_q N'_q))
  exact True.intro
theorem hk213 : True := by
  k_with "mine call ref" => ((k_here; (k_dflt (show wpAny _ _ (call (Value.ref 224) _) _ _ _)); k_dflt (refine' useU (C := figures_c _ _ _ _ _ _ _ _ (by assumption) (by first | assumption | k_ne) (by first | assumption | k_all)) (hp := ?_)); intro t'_q h'_q tk'_q F'_q N'_q))
  exact True.intro
theorem hk214 : True := by
  k_with "mine exec While" => ((k_here; (refine whl_start 0 (Hold.out ?_))))
  exact True.intro
theorem hk215 : True := by
  k_with "mine exec While Compare" => ((k_here; (refine whl_start 0 (Hold.out ?_))))
  exact True.intro
theorem hk216 : True := by
  k_with "mine exec While Compare cons nil" => ((k_here; (refine whl_start 0 (Hold.out ?_))))
  exact True.intro
theorem hk217 : True := by
  k_with "mine exec While BoolOp" => ((k_here; (refine whl_start 0 (Hold.out ?_))))
  exact True.intro
theorem hk218 : True := by
  k_with "mine subscriptTail" => ((k_here; (with_reducible show wpAny _ _ (subscriptTail _ _ (Value.str _ _) (Value.int _ _)) _ _ _); (refine sub_at (by assumption) ?_); intro t'_q k'_q))
  exact True.intro
theorem hk219 : True := by
  k_with "mine subscriptTail" => ((k_here; (with_reducible show wpAny _ _ (subscriptTail _ (PySem.Expr.Slice (some _) (some _) none _) (Value.str _ _) (Value.ref _)) _ _ _); (with_reducible rename Fr _ _ _ _ => F'_q); (with_reducible rename News _ _ _ _ => N'_q); (refine slice_strN_ss (hsz := ?hsz) (s := ⟨_, _, _, _, _⟩) F'_q N'_q ?_); (case hsz => (simp only [PySem.sizeLine_eq]; omega)); intro _ _ _ _ _))
  exact True.intro
theorem hk220 : True := by
  k_with "mine WhlIf" => (first | (refine WhlIf.yes (decide_eq_true (by assumption)) ?_) | (refine WhlIf.no (decide_eq_false (by assumption)) ?_))
  exact True.intro

theorem hk221 : True := by
  k_with "mine call ref" => ((k_here; (k_dflt (show wpAny _ _ (call (Value.ref 182) _) _ _ _)); k_dflt (refine' useU (C := add_c _ _ _ _ _ _ _ _ _ _ _ _ _ _ _ (by first | assumption | omega) (by first | assumption | omega) (by first | assumption | k_all) (by assumption)) (hp := ?_)); intro y'_q l1_q l2_q l3_q h'_q tk'_q F'_q N'_q))
  exact True.intro
theorem hk222 : True := by
  k_with "mine call ref" => ((k_here; (k_dflt (show wpAny _ _ (call (Value.ref 245) _) _ _ _)); k_dflt (refine' useU (C := plain_name_c _ _ _ _ _ _ _ _ (by assumption) (by first | assumption | k_ne) (by first | assumption | k_all)) (hp := ?_)); intro t1'_q t2'_q h'_q tk'_q F'_q N'_q))
  exact True.intro

theorem hk223 : True := by
  k_with "mine call ref" => ((k_here; (k_dflt (show wpAny _ _ (call (Value.ref 103) _) _ _ _)); k_dflt (refine' useEA (C := fault_c _ _ _ _) (hp := ?_) (he := ?_)); (rotate_left; exact True.intro); intro y'_q l1_q h'_q tk'_q F'_q N'_q))
  exact True.intro
theorem hk224 : True := by
  k_with "mine exec Raise some none" => ((k_here; k_dflt (refine' Raise_fault ?kX ?hh ?hsub ?hty ?_; (case kX => k_asm); (case hh => first | rfl | assumption); (case hsub => k_is); (case hty => k_is))))
  exact True.intro
theorem hk225 : True := by
  k_with "mine RaisF" => ((k_dflt (refine' raisF ?X ?F ?N ?_; (case F => k_asm); (case N => k_asm); (case X => k_asm))))
  exact True.intro
theorem hk226 : True := by
  k_with "mine leaving ref" => ((k_here; k_dflt (first
  | (refine' leave_first ?K ?F ?N ?lt ?_; (case K => k_asm); (case F => k_asm); (case N => k_asm); (case lt => assumption); intro h'_q R'_q)
  | (refine' leave_next ?K ?F ?R ?_; (case K => k_asm); (case F => k_asm); (case R => assumption); intro h'_q R'_q)); (try dsimp only)))
  exact True.intro

theorem hk227 : True := by
  k_with "mine units_room" => (ktr_units)
  exact True.intro
theorem hk228 : True := by
  k_with "mine compareOp In str ref" => ((k_here; k_dflt (refine' in_tup_K ?X ?F ?o ?i ?_; (case F => k_asm); (case X => k_asm); (case o => k_is); (case i => (repeat constructor)))))
  exact True.intro
theorem hk229 : True := by
  k_with "mine compareOp NotIn str ref" => ((k_here; k_dflt (refine' notin_tup_K ?X ?F ?o ?i ?_; (case F => k_asm); (case X => k_asm); (case o => k_is); (case i => (repeat constructor)))))
  exact True.intro
theorem hk230 : True := by
  k_with "mine compareOp Eq ref ref" => ((k_here; k_dflt (refine' eq_lens_K ?N ?a ?b ?z ?u ?_; (case N => k_asm); (case a => k_mem); (case b => k_mem); (case z => simp); (case u => ktr_units))))
  exact True.intro
theorem hk231 : True := by
  k_with "mine subscriptTail" => ((k_here; k_dflt (refine' last_K ?N ?a ?z ?_ ?s ?g; (case N => k_asm); (case a => k_mem); (case z => assumption); (case s => with_unfolding_all rfl); (case g => (intro _; with_unfolding_all rfl)))))
  exact True.intro
theorem hk232 : True := by
  k_with "mine compareOp Eq ref ref" => ((k_here; k_dflt (refine' eq_nil_K ?N ?a ?b ?u ?_; (case N => k_asm); (case a => k_mem); (case b => k_mem); (case u => ktr_units))))
  exact True.intro

theorem hk233 : True := by
  k_with "mine call ref" => ((k_here; (k_dflt (show wpAny _ _ (call (Value.ref 266) _) _ _ _)); k_dflt (refine' useEA (C := mark_c _ _ _ _ _ _ _ _ _ _ _ (by assumption) (by first | assumption | omega) (by first | assumption | omega) (by first | assumption | k_all) (by first | assumption | k_all) (by assumption) _ (by first | assumption | exact rfl)) (hp := ?_) (he := ?_)); (rotate_left; (intro msg'_q hm'_q e'_q h'_q tk'_q R'_q Ns'_q); rotate_left; intro kind'_q text'_q k'_q ho'_q y'_q t'_q l1_q l2_q l3_q h'_q tk'_q F'_q N'_q)))
  exact True.intro


theorem hk234 : True := by
  k_with "mine call ref" => ((k_here; (k_dflt (show wpAny _ _ (call (Value.ref 217) _) _ _ _)); k_dflt (refine' useEA (C := number_c _ _ _ _ _ _ _ _ _ _ _ (by assumption) (by first | assumption | omega) (by first | assumption | omega) (by first | assumption | k_all) (by first | assumption | k_all) (by assumption) _ (by first | assumption | exact rfl)) (hp := ?_) (he := ?_)); (rotate_left; (intro msg'_q hm'_q e'_q h'_q tk'_q R'_q Ns'_q); rotate_left; intro y'_q t'_q l1_q l2_q l3_q h'_q tk'_q F'_q N'_q)))
  exact True.intro
theorem hk235 : True := by
  k_with "mine call ref" => ((k_here; (k_dflt (show wpAny _ _ (call (Value.ref 203) _) _ _ _)); k_dflt (refine' useU (C := BehC.out (by assumption) _ _) (hp := ?_)); intro h'_q tk'_q F'_q N'_q))
  exact True.intro
theorem hk236 : True := by
  k_with "mine call ref" => ((k_here; (k_dflt (show wpAny _ _ (call (Value.ref 252) _) _ _ _)); k_dflt (refine' useEA (C := qual_c _ _ _ _ _ _ _ _ (by assumption) (by omega) (by first | assumption | k_ne) (by first | assumption | k_all) _ (by first | assumption | exact rfl)) (hp := ?_) (he := ?_)); (rotate_left; (intro k'_q hq'_q; first | exact ok_bad hq'_q | ((try cases hq'_q); intro e'_q h'_q tk'_q R'_q Ns'_q)); rotate_left; (intro name'_q k'_q hq'_q; first | exact bad_ok hq'_q | ((try cases hq'_q); intro t1'_q t2'_q h'_q tk'_q F'_q N'_q)))))
  exact True.intro

theorem var_c (w : World) (x dx : Addr) (z : Sc) (n : Int) (tn : Tok) (us : Array Value) (ep : Nat) (c : Nat) (r : List Nat) (rest : List (Addr × Obj)) (hs : Sf z.T n (c :: r)) (o1 : @LT.lt Nat _ dx x) (o2 : @LT.lt Nat _ x z.fl) (hr : ∀ p ∈ rest, p.1 ≠ dx) (hr2 : ∀ p ∈ rest, p.1 ≠ z.fl) (hus : us.size ≤ 100) (o : Out) (ho : varO n (c :: r) = o) :
    ConE w 6 110 238 [.ref x] ((x, instObj 269 dx) :: (dx, scD z n tn) :: (z.fl, listOf us ep) :: rest)
      (fun R => postOut x dx z n us ep rest o R) (fun R => epostOut rest o R) := by
  subst ho
  (unfold ConE; intro mean mg mb dp un gd cn cs a ccd cl outer A₀ base h₀ L m s Q E B F X N T hk hd hu hret hex)
  (refine wpAny_call ?_; k_dflt (refine' code_def ?k1 ?k2 ?k3 ?k4 ?k5 ?kA ?kF ?kK ?k6 ?k7 ?k8 ?k9 ?kB ?_ ?c2 ?c3 ?c4 ?c5; (case kA => exact rfl); (case kF => exact rfl); (case kK => assumption); (case k1 => k_asm); (case k2 => k_asm); (case k3 => k_asm); (case k4 => first | k_asm | exact drop1 (by k_asm) | exact drop2 (by k_asm)); (case k5 => k_asm); (case k6 => k_is); (case k7 => k_is); (case k8 => ktr_room); (case k9 => first | exact BindsTo.of_eq rfl | exact binds_K (by k_in) rfl (by k_is) rfl rfl rfl); (case c5 => decide); (case kB => exact locs rfl); (case c2 => exact rfl); (case c3 => exact rfl); (case c4 => exact rfl); k_whole; intro g' L' h' FG' F' N' B' X' T'))
  (revert FG' F' N' B' X' T'; revert B F X N T hk hd hu hret hex; revert mean mg mb dp un gd cn cs a ccd cl outer A₀ base h₀ L m s Q E g' L' h'; revert w x dx z n tn us ep c r rest; refine ep11_all (by repeat' (first | exact ne_world | exact ne_sc | exact ⟨({} : Shared)⟩ | exact ⟨Wd.star⟩ | refine ne_pair ?_ ?_ | exact inferInstance)) ?_; intro eP eE; refine ((?eg1 : ∀ y0 y1 y2 y3 y4 y5 y6 y7 y8 y9 y10, eP y0 y1 y2 y3 y4 y5 y6 y7 y8 y9 y10) _ _ _ _ _ _ _ _ _ _ _); intro w x dx z n tn us ep c r rest; subst eE; set_option tactic.hygienic false in intro; set_option tactic.hygienic false in intros; revert FG' F' N' B' X' T'; revert B F X N T hk hd hu hret hex; revert mean mg mb dp un gd cn cs a ccd cl outer A₀ base h₀ L m s Q E g' L' h'; refine amb_all ?_; intro eP eE; refine ((?eg2 : ∀ y0 y1 y2 y3 y4 y5 y6 y7 y8 y9 y10 y11 y12 y13 y14 y15 y16 y17 y18 y19 y20 y21 y22, eP y0 y1 y2 y3 y4 y5 y6 y7 y8 y9 y10 y11 y12 y13 y14 y15 y16 y17 y18 y19 y20 y21 y22) _ _ _ _ _ _ _ _ _ _ _ _ _ _ _ _ _ _ _ _ _ _ _); intro mean mg mb dp un gd cn cs a ccd cl outer A₀ base h₀ L m s Q E g' L' h'; subst eE; set_option tactic.hygienic false in intro; set_option tactic.hygienic false in intros; skip)
  ((try dsimp only); (try k_lift B'))
  have hT := hs.sz
  have hn := hs.nn
  have hn2 : n ≤ 1000 := hs.n1000 (by simp)
  have hn3 : n + 1 ≤ 1000 := by have := hs.len.mpr (by simp); omega
  have hs1 : Sf z.T (n + 1) r := hs.tail
  cases hq : qual r with
  | bad k =>
    k_steps
    all_goals first | (refine' fin_word hret ?F ?N ?l1 ?l2 ?l3 ?e ?hn ?hk ?ht; (case F => k_asm); (case N => k_asm); (case l1 => assumption); (case l2 => assumption); (case l3 => assumption); (case hk => exact rfl); (case ht => exact rfl); (case hn => exact en); (case e => (simp only [varO, List.tail_cons, hq, *, if_true, if_false, Bool.false_eq_true, Bool.and_true, Bool.true_and, Bool.and_false, Bool.false_and, Bool.not_true, Bool.not_false, Bool.or_false, Bool.false_or, Bool.or_true, Bool.true_or]))) | (refine' Fly.out (hex _ ?e) ?R ?FG ?sub; (case R => assumption); (case FG => assumption); (case sub => (intro p hp; (try simp only [List.mem_cons]); first | exact hp | exact .inr hp | exact .inr (.inr hp) | exact .inr (.inr (.inr hp)) | exact .inr (.inr (.inr (.inr hp))))); (case e => (simp only [varO, List.tail_cons, hq, *, if_true, if_false, Bool.false_eq_true, Bool.and_true, Bool.true_and, Bool.and_false, Bool.false_and, Bool.not_true, Bool.not_false, Bool.or_false, Bool.false_or, Bool.or_true, Bool.true_or])))
  | ok name k =>
    have en : n + 1 + (k : Int) = n + ((1 + k : Nat) : Int) := by omega
    k_steps
    all_goals first | (refine' fin_word hret ?F ?N ?l1 ?l2 ?l3 ?e ?hn ?hk ?ht; (case F => k_asm); (case N => k_asm); (case l1 => assumption); (case l2 => assumption); (case l3 => assumption); (case hk => exact rfl); (case ht => exact rfl); (case hn => exact en); (case e => (simp only [varO, List.tail_cons, hq, *, if_true, if_false, Bool.false_eq_true, Bool.and_true, Bool.true_and, Bool.and_false, Bool.false_and, Bool.not_true, Bool.not_false, Bool.or_false, Bool.false_or, Bool.or_true, Bool.true_or]))) | (refine' Fly.out (hex _ ?e) ?R ?FG ?sub; (case R => assumption); (case FG => assumption); (case sub => (intro p hp; (try simp only [List.mem_cons]); first | exact hp | exact .inr hp | exact .inr (.inr hp) | exact .inr (.inr (.inr hp)) | exact .inr (.inr (.inr (.inr hp))))); (case e => (simp only [varO, List.tail_cons, hq, *, if_true, if_false, Bool.false_eq_true, Bool.and_true, Bool.true_and, Bool.and_false, Bool.false_and, Bool.not_true, Bool.not_false, Bool.or_false, Bool.false_or, Bool.or_true, Bool.true_or])))
theorem hk237 : True := by
  k_with "mine call ref" => ((k_here; (k_dflt (show wpAny _ _ (call (Value.ref 238) _) _ _ _)); k_dflt (refine' useEA (C := var_c _ _ _ _ _ _ _ _ _ _ _ (by assumption) (by first | assumption | omega) (by first | assumption | omega) (by first | assumption | k_all) (by first | assumption | k_all) (by assumption) _ (by first | assumption | exact rfl)) (hp := ?_) (he := ?_)); (rotate_left; (intro msg'_q hm'_q e'_q h'_q tk'_q R'_q Ns'_q); rotate_left; intro kind'_q text'_q k'_q ho'_q y'_q t'_q l1_q l2_q l3_q h'_q tk'_q F'_q N'_q)))
  exact True.intro

-- B8
theorem hk273 : True := by
  k_with_none
  exact True.intro
theorem hk239 : True := by
  k_with "mine call ref" => ((k_here; (k_dflt (show wpAny _ _ (call (Value.ref 52) _) _ _ _)); k_dflt (refine' useU (C := is_space_c _ _ _ _ _ (by first | assumption | exact rfl)) (hp := ?_)); intro h'_q tk'_q F'_q N'_q))
  exact True.intro
theorem hk240 : True := by
  k_with "mine call ref" => ((k_here; (k_dflt (show wpAny _ _ (call (Value.ref 66) _) _ _ _)); k_dflt (refine' useU (C := is_name_start_c _ _ _ _ _ (by first | assumption | exact Sf.head (by assumption)) (by first | assumption | exact rfl)) (hp := ?_)); intro h'_q tk'_q F'_q N'_q))
  exact True.intro
theorem hk241 : True := by
  k_with "mine call ref" => ((k_here; (k_dflt (show wpAny _ _ (call (Value.ref 73) _) _ _ _)); k_dflt (refine' useU (C := is_name_char_c _ _ _ _ _ (by first | assumption | exact Sf.head (by assumption)) (by first | assumption | exact rfl)) (hp := ?_)); intro h'_q tk'_q F'_q N'_q))
  exact True.intro
theorem hk242 : True := by
  k_with "mine k_all" => (assumption)
  exact True.intro
theorem hk243 : True := by
  k_with "mine k_room" => (ktr_room)
  exact True.intro
theorem hk244 : True := by
  k_with "mine k_units" => (ktr_units)
  exact True.intro

theorem hk245 : True := by
  k_with "mine call ref" => ((k_here; (k_dflt (show wpAny _ _ (call (Value.ref 175) _) _ _ _)); k_dflt (refine' useU (C := sign0_c _ _ _ _ _ _ _ _ (by assumption)) (hp := ?_)); intro t'_q h'_q tk'_q F'_q N'_q))
  exact True.intro
theorem hk246 : True := by
  k_with "mine call ref" => ((k_here; (k_dflt (show wpAny _ _ (call (Value.ref 175) _) _ _ _)); k_dflt (refine' useU (C := sign1_c _ _ _ _ _ _ _ _ _ (by assumption)) (hp := ?_)); intro t'_q h'_q tk'_q F'_q N'_q))
  exact True.intro
theorem hk247 : True := by
  k_with "mine call ref" => ((k_here; (k_dflt (show wpAny _ _ (call (Value.ref 196) _) _ _ _)); k_dflt (refine' useU (C := skip_c _ _ _ _ _ _ _ _ (by assumption) (by first | assumption | k_ne) (by first | assumption | k_all)) (hp := ?_)); intro t'_q h'_q tk'_q F'_q N'_q))
  exact True.intro
theorem hk248 : True := by
  k_with "mine call ref" => ((k_here; (k_dflt (show wpAny _ _ (call (Value.ref 224) _) _ _ _)); k_dflt (refine' useU (C := figures_c _ _ _ _ _ _ _ _ (by assumption) (by first | assumption | k_ne) (by first | assumption | k_all)) (hp := ?_)); intro t'_q h'_q tk'_q F'_q N'_q))
  exact True.intro
theorem hk249 : True := by
  k_with "mine exec While" => ((k_here; (refine whl_start 0 (Hold.out ?_))))
  exact True.intro
theorem hk250 : True := by
  k_with "mine exec While Compare" => ((k_here; (refine whl_start 0 (Hold.out ?_))))
  exact True.intro
theorem hk251 : True := by
  k_with "mine exec While Compare cons nil" => ((k_here; (refine whl_start 0 (Hold.out ?_))))
  exact True.intro
theorem hk252 : True := by
  k_with "mine exec While BoolOp" => ((k_here; (refine whl_start 0 (Hold.out ?_))))
  exact True.intro
theorem hk253 : True := by
  k_with "mine subscriptTail" => ((k_here; (with_reducible show wpAny _ _ (subscriptTail _ _ (Value.str _ _) (Value.int _ _)) _ _ _); (refine sub_at (by assumption) ?_); intro t'_q k'_q))
  exact True.intro
theorem hk254 : True := by
  k_with "mine subscriptTail" => ((k_here; (with_reducible show wpAny _ _ (subscriptTail _ (PySem.Expr.Slice (some _) (some _) none _) (Value.str _ _) (Value.ref _)) _ _ _); (with_reducible rename Fr _ _ _ _ => F'_q); (with_reducible rename News _ _ _ _ => N'_q); (refine slice_strN_ss (hsz := ?hsz) (s := ⟨_, _, _, _, _⟩) F'_q N'_q ?_); (case hsz => (simp only [PySem.sizeLine_eq]; omega)); intro _ _ _ _ _))
  exact True.intro
theorem hk255 : True := by
  k_with "mine WhlIf" => (first | (refine WhlIf.yes (decide_eq_true (by assumption)) ?_) | (refine WhlIf.no (decide_eq_false (by assumption)) ?_))
  exact True.intro

theorem hk256 : True := by
  k_with "mine call ref" => ((k_here; (k_dflt (show wpAny _ _ (call (Value.ref 182) _) _ _ _)); k_dflt (refine' useU (C := add_c _ _ _ _ _ _ _ _ _ _ _ _ _ _ _ (by first | assumption | omega) (by first | assumption | omega) (by first | assumption | k_all) (by assumption)) (hp := ?_)); intro y'_q l1_q l2_q l3_q h'_q tk'_q F'_q N'_q))
  exact True.intro
theorem hk257 : True := by
  k_with "mine call ref" => ((k_here; (k_dflt (show wpAny _ _ (call (Value.ref 245) _) _ _ _)); k_dflt (refine' useU (C := plain_name_c _ _ _ _ _ _ _ _ (by assumption) (by first | assumption | k_ne) (by first | assumption | k_all)) (hp := ?_)); intro t1'_q t2'_q h'_q tk'_q F'_q N'_q))
  exact True.intro

theorem hk258 : True := by
  k_with "mine call ref" => ((k_here; (k_dflt (show wpAny _ _ (call (Value.ref 103) _) _ _ _)); k_dflt (refine' useEA (C := fault_c _ _ _ _) (hp := ?_) (he := ?_)); (rotate_left; exact True.intro); intro y'_q l1_q h'_q tk'_q F'_q N'_q))
  exact True.intro
theorem hk259 : True := by
  k_with "mine exec Raise some none" => ((k_here; k_dflt (refine' Raise_fault ?kX ?hh ?hsub ?hty ?_; (case kX => k_asm); (case hh => first | rfl | assumption); (case hsub => k_is); (case hty => k_is))))
  exact True.intro
theorem hk260 : True := by
  k_with "mine RaisF" => ((k_dflt (refine' raisF ?X ?F ?N ?_; (case F => k_asm); (case N => k_asm); (case X => k_asm))))
  exact True.intro
theorem hk261 : True := by
  k_with "mine leaving ref" => ((k_here; k_dflt (first
  | (refine' leave_first ?K ?F ?N ?lt ?_; (case K => k_asm); (case F => k_asm); (case N => k_asm); (case lt => assumption); intro h'_q R'_q)
  | (refine' leave_next ?K ?F ?R ?_; (case K => k_asm); (case F => k_asm); (case R => assumption); intro h'_q R'_q)); (try dsimp only)))
  exact True.intro

theorem hk262 : True := by
  k_with "mine units_room" => (ktr_units)
  exact True.intro
theorem hk263 : True := by
  k_with "mine compareOp In str ref" => ((k_here; k_dflt (refine' in_tup_K ?X ?F ?o ?i ?_; (case F => k_asm); (case X => k_asm); (case o => k_is); (case i => (repeat constructor)))))
  exact True.intro
theorem hk264 : True := by
  k_with "mine compareOp NotIn str ref" => ((k_here; k_dflt (refine' notin_tup_K ?X ?F ?o ?i ?_; (case F => k_asm); (case X => k_asm); (case o => k_is); (case i => (repeat constructor)))))
  exact True.intro
theorem hk265 : True := by
  k_with "mine compareOp Eq ref ref" => ((k_here; k_dflt (refine' eq_lens_K ?N ?a ?b ?z ?u ?_; (case N => k_asm); (case a => k_mem); (case b => k_mem); (case z => simp); (case u => ktr_units))))
  exact True.intro
theorem hk266 : True := by
  k_with "mine subscriptTail" => ((k_here; k_dflt (refine' last_K ?N ?a ?z ?_ ?s ?g; (case N => k_asm); (case a => k_mem); (case z => assumption); (case s => with_unfolding_all rfl); (case g => (intro _; with_unfolding_all rfl)))))
  exact True.intro
theorem hk267 : True := by
  k_with "mine compareOp Eq ref ref" => ((k_here; k_dflt (refine' eq_nil_K ?N ?a ?b ?u ?_; (case N => k_asm); (case a => k_mem); (case b => k_mem); (case u => ktr_units))))
  exact True.intro

theorem hk268 : True := by
  k_with "mine call ref" => ((k_here; (k_dflt (show wpAny _ _ (call (Value.ref 266) _) _ _ _)); k_dflt (refine' useEA (C := mark_c _ _ _ _ _ _ _ _ _ _ _ (by assumption) (by first | assumption | omega) (by first | assumption | omega) (by first | assumption | k_all) (by first | assumption | k_all) (by assumption) _ (by first | assumption | exact rfl)) (hp := ?_) (he := ?_)); (rotate_left; (intro msg'_q hm'_q e'_q h'_q tk'_q R'_q Ns'_q); rotate_left; intro kind'_q text'_q k'_q ho'_q y'_q t'_q l1_q l2_q l3_q h'_q tk'_q F'_q N'_q)))
  exact True.intro


theorem hk269 : True := by
  k_with "mine call ref" => ((k_here; (k_dflt (show wpAny _ _ (call (Value.ref 217) _) _ _ _)); k_dflt (refine' useEA (C := number_c _ _ _ _ _ _ _ _ _ _ _ (by assumption) (by first | assumption | omega) (by first | assumption | omega) (by first | assumption | k_all) (by first | assumption | k_all) (by assumption) _ (by first | assumption | exact rfl)) (hp := ?_) (he := ?_)); (rotate_left; (intro msg'_q hm'_q e'_q h'_q tk'_q R'_q Ns'_q); rotate_left; intro y'_q t'_q l1_q l2_q l3_q h'_q tk'_q F'_q N'_q)))
  exact True.intro
theorem hk270 : True := by
  k_with "mine call ref" => ((k_here; (k_dflt (show wpAny _ _ (call (Value.ref 203) _) _ _ _)); k_dflt (refine' useU (C := BehC.out (by assumption) _ _) (hp := ?_)); intro h'_q tk'_q F'_q N'_q))
  exact True.intro
theorem hk271 : True := by
  k_with "mine call ref" => ((k_here; (k_dflt (show wpAny _ _ (call (Value.ref 252) _) _ _ _)); k_dflt (refine' useEA (C := qual_c _ _ _ _ _ _ _ _ (by assumption) (by omega) (by first | assumption | k_ne) (by first | assumption | k_all) _ (by first | assumption | exact rfl)) (hp := ?_) (he := ?_)); (rotate_left; (intro k'_q hq'_q; first | exact ok_bad hq'_q | ((try cases hq'_q); intro e'_q h'_q tk'_q R'_q Ns'_q)); rotate_left; (intro name'_q k'_q hq'_q; first | exact bad_ok hq'_q | ((try cases hq'_q); intro t1'_q t2'_q h'_q tk'_q F'_q N'_q)))))
  exact True.intro

theorem name_g (w : World) (x dx : Addr) (z : Sc) (n : Int) (tn : Tok) (us : Array Value) (ep : Nat) (r : List Nat) (rest : List (Addr × Obj)) (hs : Sf z.T n r) (hn2 : n ≤ 1000) (o1 : @LT.lt Nat _ dx x) (o2 : @LT.lt Nat _ x z.fl) (hr : ∀ p ∈ rest, p.1 ≠ dx) (hr2 : ∀ p ∈ rest, p.1 ≠ z.fl) (hus : us.size ≤ 100) (b : Bool) (hb : BehC w x dx z us ep rest b) :
    ConE w 6 110 259 [.ref x] ((x, instObj 269 dx) :: (dx, scD z n tn) :: (z.fl, listOf us ep) :: rest)
      (fun R => postOut x dx z n us ep rest (nameO b n r) R) (fun R => epostOut rest (nameO b n r) R) := by
  (unfold ConE; intro mean mg mb dp un gd cn cs a ccd cl outer A₀ base h₀ L m s Q E B F X N T hk hd hu hret hex)
  (refine wpAny_call ?_; k_dflt (refine' code_def ?k1 ?k2 ?k3 ?k4 ?k5 ?kA ?kF ?kK ?k6 ?k7 ?k8 ?k9 ?kB ?_ ?c2 ?c3 ?c4 ?c5; (case kA => exact rfl); (case kF => exact rfl); (case kK => assumption); (case k1 => k_asm); (case k2 => k_asm); (case k3 => k_asm); (case k4 => first | k_asm | exact drop1 (by k_asm) | exact drop2 (by k_asm)); (case k5 => k_asm); (case k6 => k_is); (case k7 => k_is); (case k8 => ktr_room); (case k9 => first | exact BindsTo.of_eq rfl | exact binds_K (by k_in) rfl (by k_is) rfl rfl rfl); (case c5 => decide); (case kB => exact locs rfl); (case c2 => exact rfl); (case c3 => exact rfl); (case c4 => exact rfl); k_whole; intro g' L' h' FG' F' N' B' X' T'))
  (revert FG' F' N' B' X' T'; revert B F X N T hk hd hu hret hex; revert mean mg mb dp un gd cn cs a ccd cl outer A₀ base h₀ L m s Q E g' L' h'; revert hs hn2 o1 o2 hr hr2 hus hb; revert w x dx z n tn us ep r rest b; refine ep11_all (by repeat' (first | exact ne_world | exact ne_sc | exact ⟨({} : Shared)⟩ | exact ⟨Wd.star⟩ | refine ne_pair ?_ ?_ | exact inferInstance)) ?_; intro eP eE; refine ((?eg1 : ∀ y0 y1 y2 y3 y4 y5 y6 y7 y8 y9 y10, eP y0 y1 y2 y3 y4 y5 y6 y7 y8 y9 y10) _ _ _ _ _ _ _ _ _ _ _); intro w x dx z n tn us ep r rest b; subst eE; set_option tactic.hygienic false in intro; set_option tactic.hygienic false in intros; revert FG' F' N' B' X' T'; revert B F X N T hk hd hu hret hex; revert mean mg mb dp un gd cn cs a ccd cl outer A₀ base h₀ L m s Q E g' L' h'; refine amb_all ?_; intro eP eE; refine ((?eg2 : ∀ y0 y1 y2 y3 y4 y5 y6 y7 y8 y9 y10 y11 y12 y13 y14 y15 y16 y17 y18 y19 y20 y21 y22, eP y0 y1 y2 y3 y4 y5 y6 y7 y8 y9 y10 y11 y12 y13 y14 y15 y16 y17 y18 y19 y20 y21 y22) _ _ _ _ _ _ _ _ _ _ _ _ _ _ _ _ _ _ _ _ _ _ _); intro mean mg mb dp un gd cn cs a ccd cl outer A₀ base h₀ L m s Q E g' L' h'; subst eE; set_option tactic.hygienic false in intro; set_option tactic.hygienic false in intros; skip)
  ((try dsimp only); (try k_lift B'))
  have hT := hs.sz
  have hn := hs.nn
  cases b with
  | true =>
    k_steps
    all_goals first | (refine' fin_word hret ?F ?N ?l1 ?l2 ?l3 ?e ?hn ?hk ?ht; (case F => k_asm); (case N => k_asm); (case l1 => assumption); (case l2 => assumption); (case l3 => assumption); (case hk => exact rfl); (case ht => exact rfl); (case hn => exact rfl); (case e => (simp only [nameO, *, if_true, if_false, Bool.false_eq_true, Bool.and_true, Bool.true_and, Bool.and_false, Bool.false_and, Bool.not_true, Bool.not_false, Bool.or_false, Bool.false_or, Bool.or_true, Bool.true_or]))) | (refine' Fly.out (hex _ ?e) ?R ?FG ?sub; (case R => assumption); (case FG => assumption); (case sub => (intro p hp; (try simp only [List.mem_cons]); first | exact hp | exact .inr hp | exact .inr (.inr hp) | exact .inr (.inr (.inr hp)) | exact .inr (.inr (.inr (.inr hp))))); (case e => (simp only [nameO, *, if_true, if_false, Bool.false_eq_true, Bool.and_true, Bool.true_and, Bool.and_false, Bool.false_and, Bool.not_true, Bool.not_false, Bool.or_false, Bool.false_or, Bool.or_true, Bool.true_or])))
  | false =>
    cases hq : qual r with
    | bad k =>
      k_steps
      all_goals first | (refine' fin_word hret ?F ?N ?l1 ?l2 ?l3 ?e ?hn ?hk ?ht; (case F => k_asm); (case N => k_asm); (case l1 => assumption); (case l2 => assumption); (case l3 => assumption); (case hk => exact rfl); (case ht => exact rfl); (case hn => exact rfl); (case e => (simp only [nameO, hq, *, if_true, if_false, Bool.false_eq_true, Bool.and_true, Bool.true_and, Bool.and_false, Bool.false_and, Bool.not_true, Bool.not_false, Bool.or_false, Bool.false_or, Bool.or_true, Bool.true_or]))) | (refine' Fly.out (hex _ ?e) ?R ?FG ?sub; (case R => assumption); (case FG => assumption); (case sub => (intro p hp; (try simp only [List.mem_cons]); first | exact hp | exact .inr hp | exact .inr (.inr hp) | exact .inr (.inr (.inr hp)) | exact .inr (.inr (.inr (.inr hp))))); (case e => (simp only [nameO, hq, *, if_true, if_false, Bool.false_eq_true, Bool.and_true, Bool.true_and, Bool.and_false, Bool.false_and, Bool.not_true, Bool.not_false, Bool.or_false, Bool.false_or, Bool.or_true, Bool.true_or])))
    | ok name k =>
      have hs1 := hs.on k
      have hs2 := hs1.on (spN (r.drop k))
      have en : n + (k : Int) + (spN (r.drop k) : Int) = n + ((k + spN (r.drop k) : Nat) : Int) := by omega
      k_steps

      all_goals first | (refine' fin_word hret ?F ?N ?l1 ?l2 ?l3 ?e ?hn ?hk ?ht; (case F => k_asm); (case N => k_asm); (case l1 => assumption); (case l2 => assumption); (case l3 => assumption); (case hk => exact rfl); (case ht => exact rfl); (case hn => first | exact rfl | exact en); (case e => (simp only [nameO, hq, *, if_true, if_false, Bool.false_eq_true, Bool.and_true, Bool.true_and, Bool.and_false, Bool.false_and, Bool.not_true, Bool.not_false, Bool.or_false, Bool.false_or, Bool.or_true, Bool.true_or]))) | (refine' Fly.out (hex _ ?e) ?R ?FG ?sub; (case R => assumption); (case FG => assumption); (case sub => (intro p hp; (try simp only [List.mem_cons]); first | exact hp | exact .inr hp | exact .inr (.inr hp) | exact .inr (.inr (.inr hp)) | exact .inr (.inr (.inr (.inr hp))))); (case e => (simp only [nameO, hq, *, if_true, if_false, Bool.false_eq_true, Bool.and_true, Bool.true_and, Bool.and_false, Bool.false_and, Bool.not_true, Bool.not_false, Bool.or_false, Bool.false_or, Bool.or_true, Bool.true_or])))
theorem name_c (w : World) (x dx : Addr) (z : Sc) (n : Int) (tn : Tok) (us : Array Value) (ep : Nat) (c : Nat) (r : List Nat) (rest : List (Addr × Obj)) (hs : Sf z.T n (c :: r)) (o1 : @LT.lt Nat _ dx x) (o2 : @LT.lt Nat _ x z.fl) (hr : ∀ p ∈ rest, p.1 ≠ dx) (hr2 : ∀ p ∈ rest, p.1 ≠ z.fl) (hus : us.size ≤ 100) (b : Bool) (hb : BehC w x dx z us ep rest b) (o : Out) (ho : nameO b n (c :: r) = o) :
    ConE w 6 110 259 [.ref x] ((x, instObj 269 dx) :: (dx, scD z n tn) :: (z.fl, listOf us ep) :: rest)
      (fun R => postOut x dx z n us ep rest o R) (fun R => epostOut rest o R) := by
  subst ho
  exact name_g w x dx z n tn us ep (c :: r) rest hs (hs.n1000 (by simp)) o1 o2 hr hr2 hus b hb
theorem hk272 : True := by
  k_with "mine call ref" => ((k_here; (k_dflt (show wpAny _ _ (call (Value.ref 259) _) _ _ _)); k_dflt (refine' useEA (C := name_c _ _ _ _ _ _ _ _ _ _ _ (by assumption) (by first | assumption | omega) (by first | assumption | omega) (by first | assumption | k_all) (by first | assumption | k_all) (by assumption) _ (by assumption) _ (by first | assumption | exact rfl)) (hp := ?_) (he := ?_)); (rotate_left; (intro msg'_q hm'_q e'_q h'_q tk'_q R'_q Ns'_q); rotate_left; intro kind'_q text'_q k'_q ho'_q y'_q t'_q l1_q l2_q l3_q h'_q tk'_q F'_q N'_q)))
  exact True.intro

-- B9
theorem hk310 : True := by
  k_with_none
  exact True.intro
theorem hk274 : True := by
  k_with "mine call ref" => ((k_here; (k_dflt (show wpAny _ _ (call (Value.ref 52) _) _ _ _)); k_dflt (refine' useU (C := is_space_c _ _ _ _ _ (by first | assumption | exact rfl)) (hp := ?_)); intro h'_q tk'_q F'_q N'_q))
  exact True.intro
theorem hk275 : True := by
  k_with "mine call ref" => ((k_here; (k_dflt (show wpAny _ _ (call (Value.ref 66) _) _ _ _)); k_dflt (refine' useU (C := is_name_start_c _ _ _ _ _ (by first | assumption | exact Sf.head (by assumption)) (by first | assumption | exact rfl)) (hp := ?_)); intro h'_q tk'_q F'_q N'_q))
  exact True.intro
theorem hk276 : True := by
  k_with "mine call ref" => ((k_here; (k_dflt (show wpAny _ _ (call (Value.ref 73) _) _ _ _)); k_dflt (refine' useU (C := is_name_char_c _ _ _ _ _ (by first | assumption | exact Sf.head (by assumption)) (by first | assumption | exact rfl)) (hp := ?_)); intro h'_q tk'_q F'_q N'_q))
  exact True.intro
theorem hk277 : True := by
  k_with "mine k_all" => (assumption)
  exact True.intro
theorem hk278 : True := by
  k_with "mine k_room" => (ktr_room)
  exact True.intro
theorem hk279 : True := by
  k_with "mine k_units" => (ktr_units)
  exact True.intro

theorem hk280 : True := by
  k_with "mine call ref" => ((k_here; (k_dflt (show wpAny _ _ (call (Value.ref 175) _) _ _ _)); k_dflt (refine' useU (C := sign0_c _ _ _ _ _ _ _ _ (by assumption)) (hp := ?_)); intro t'_q h'_q tk'_q F'_q N'_q))
  exact True.intro
theorem hk281 : True := by
  k_with "mine call ref" => ((k_here; (k_dflt (show wpAny _ _ (call (Value.ref 175) _) _ _ _)); k_dflt (refine' useU (C := sign1_c _ _ _ _ _ _ _ _ _ (by assumption)) (hp := ?_)); intro t'_q h'_q tk'_q F'_q N'_q))
  exact True.intro
theorem hk282 : True := by
  k_with "mine call ref" => ((k_here; (k_dflt (show wpAny _ _ (call (Value.ref 196) _) _ _ _)); k_dflt (refine' useU (C := skip_c _ _ _ _ _ _ _ _ (by assumption) (by first | assumption | k_ne) (by first | assumption | k_all)) (hp := ?_)); intro t'_q h'_q tk'_q F'_q N'_q))
  exact True.intro
theorem hk283 : True := by
  k_with "mine call ref" => ((k_here; (k_dflt (show wpAny _ _ (call (Value.ref 224) _) _ _ _)); k_dflt (refine' useU (C := figures_c _ _ _ _ _ _ _ _ (by assumption) (by first | assumption | k_ne) (by first | assumption | k_all)) (hp := ?_)); intro t'_q h'_q tk'_q F'_q N'_q))
  exact True.intro
theorem hk284 : True := by
  k_with "mine exec While" => ((k_here; (refine whl_start 0 (Hold.out ?_))))
  exact True.intro
theorem hk285 : True := by
  k_with "mine exec While Compare" => ((k_here; (refine whl_start 0 (Hold.out ?_))))
  exact True.intro
theorem hk286 : True := by
  k_with "mine exec While Compare cons nil" => ((k_here; (refine whl_start 0 (Hold.out ?_))))
  exact True.intro
theorem hk287 : True := by
  k_with "mine exec While BoolOp" => ((k_here; (refine whl_start 0 (Hold.out ?_))))
  exact True.intro
theorem hk288 : True := by
  k_with "mine subscriptTail" => ((k_here; (with_reducible show wpAny _ _ (subscriptTail _ _ (Value.str _ _) (Value.int _ _)) _ _ _); (refine sub_at (by assumption) ?_); intro t'_q k'_q))
  exact True.intro
theorem hk289 : True := by
  k_with "mine subscriptTail" => ((k_here; (with_reducible show wpAny _ _ (subscriptTail _ (PySem.Expr.Slice (some _) (some _) none _) (Value.str _ _) (Value.ref _)) _ _ _); (with_reducible rename Fr _ _ _ _ => F'_q); (with_reducible rename News _ _ _ _ => N'_q); (refine slice_strN_ss (hsz := ?hsz) (s := ⟨_, _, _, _, _⟩) F'_q N'_q ?_); (case hsz => (simp only [PySem.sizeLine_eq]; omega)); intro _ _ _ _ _))
  exact True.intro
theorem hk290 : True := by
  k_with "mine WhlIf" => (first | (refine WhlIf.yes (decide_eq_true (by assumption)) ?_) | (refine WhlIf.no (decide_eq_false (by assumption)) ?_))
  exact True.intro

theorem hk291 : True := by
  k_with "mine call ref" => ((k_here; (k_dflt (show wpAny _ _ (call (Value.ref 182) _) _ _ _)); k_dflt (refine' useU (C := add_c _ _ _ _ _ _ _ _ _ _ _ _ _ _ _ (by first | assumption | omega) (by first | assumption | omega) (by first | assumption | k_all) (by assumption)) (hp := ?_)); intro y'_q l1_q l2_q l3_q h'_q tk'_q F'_q N'_q))
  exact True.intro
theorem hk292 : True := by
  k_with "mine call ref" => ((k_here; (k_dflt (show wpAny _ _ (call (Value.ref 245) _) _ _ _)); k_dflt (refine' useU (C := plain_name_c _ _ _ _ _ _ _ _ (by assumption) (by first | assumption | k_ne) (by first | assumption | k_all)) (hp := ?_)); intro t1'_q t2'_q h'_q tk'_q F'_q N'_q))
  exact True.intro

theorem hk293 : True := by
  k_with "mine call ref" => ((k_here; (k_dflt (show wpAny _ _ (call (Value.ref 103) _) _ _ _)); k_dflt (refine' useEA (C := fault_c _ _ _ _) (hp := ?_) (he := ?_)); (rotate_left; exact True.intro); intro y'_q l1_q h'_q tk'_q F'_q N'_q))
  exact True.intro
theorem hk294 : True := by
  k_with "mine exec Raise some none" => ((k_here; k_dflt (refine' Raise_fault ?kX ?hh ?hsub ?hty ?_; (case kX => k_asm); (case hh => first | rfl | assumption); (case hsub => k_is); (case hty => k_is))))
  exact True.intro
theorem hk295 : True := by
  k_with "mine RaisF" => ((k_dflt (refine' raisF ?X ?F ?N ?_; (case F => k_asm); (case N => k_asm); (case X => k_asm))))
  exact True.intro
theorem hk296 : True := by
  k_with "mine leaving ref" => ((k_here; k_dflt (first
  | (refine' leave_first ?K ?F ?N ?lt ?_; (case K => k_asm); (case F => k_asm); (case N => k_asm); (case lt => assumption); intro h'_q R'_q)
  | (refine' leave_next ?K ?F ?R ?_; (case K => k_asm); (case F => k_asm); (case R => assumption); intro h'_q R'_q)); (try dsimp only)))
  exact True.intro

theorem hk297 : True := by
  k_with "mine units_room" => (ktr_units)
  exact True.intro
theorem hk298 : True := by
  k_with "mine compareOp In str ref" => ((k_here; k_dflt (refine' in_tup_K ?X ?F ?o ?i ?_; (case F => k_asm); (case X => k_asm); (case o => k_is); (case i => (repeat constructor)))))
  exact True.intro
theorem hk299 : True := by
  k_with "mine compareOp NotIn str ref" => ((k_here; k_dflt (refine' notin_tup_K ?X ?F ?o ?i ?_; (case F => k_asm); (case X => k_asm); (case o => k_is); (case i => (repeat constructor)))))
  exact True.intro
theorem hk300 : True := by
  k_with "mine compareOp Eq ref ref" => ((k_here; k_dflt (refine' eq_lens_K ?N ?a ?b ?z ?u ?_; (case N => k_asm); (case a => k_mem); (case b => k_mem); (case z => simp); (case u => ktr_units))))
  exact True.intro
theorem hk301 : True := by
  k_with "mine subscriptTail" => ((k_here; k_dflt (refine' last_K ?N ?a ?z ?_ ?s ?g; (case N => k_asm); (case a => k_mem); (case z => assumption); (case s => with_unfolding_all rfl); (case g => (intro _; with_unfolding_all rfl)))))
  exact True.intro
theorem hk302 : True := by
  k_with "mine compareOp Eq ref ref" => ((k_here; k_dflt (refine' eq_nil_K ?N ?a ?b ?u ?_; (case N => k_asm); (case a => k_mem); (case b => k_mem); (case u => ktr_units))))
  exact True.intro

theorem hk303 : True := by
  k_with "mine call ref" => ((k_here; (k_dflt (show wpAny _ _ (call (Value.ref 266) _) _ _ _)); k_dflt (refine' useEA (C := mark_c _ _ _ _ _ _ _ _ _ _ _ (by assumption) (by first | assumption | omega) (by first | assumption | omega) (by first | assumption | k_all) (by first | assumption | k_all) (by assumption) _ (by first | assumption | exact rfl)) (hp := ?_) (he := ?_)); (rotate_left; (intro msg'_q hm'_q e'_q h'_q tk'_q R'_q Ns'_q); rotate_left; intro kind'_q text'_q k'_q ho'_q y'_q t'_q l1_q l2_q l3_q h'_q tk'_q F'_q N'_q)))
  exact True.intro


theorem hk304 : True := by
  k_with "mine call ref" => ((k_here; (k_dflt (show wpAny _ _ (call (Value.ref 217) _) _ _ _)); k_dflt (refine' useEA (C := number_c _ _ _ _ _ _ _ _ _ _ _ (by assumption) (by first | assumption | omega) (by first | assumption | omega) (by first | assumption | k_all) (by first | assumption | k_all) (by assumption) _ (by first | assumption | exact rfl)) (hp := ?_) (he := ?_)); (rotate_left; (intro msg'_q hm'_q e'_q h'_q tk'_q R'_q Ns'_q); rotate_left; intro kind'_q text'_q k'_q ho'_q y'_q t'_q l1_q l2_q l3_q h'_q tk'_q F'_q N'_q)))
  exact True.intro
theorem hk305 : True := by
  k_with "mine call ref" => ((k_here; (k_dflt (show wpAny _ _ (call (Value.ref 203) _) _ _ _)); k_dflt (refine' useU (C := BehC.out (by assumption) _ _) (hp := ?_)); intro h'_q tk'_q F'_q N'_q))
  exact True.intro
theorem hk306 : True := by
  k_with "mine call ref" => ((k_here; (k_dflt (show wpAny _ _ (call (Value.ref 252) _) _ _ _)); k_dflt (refine' useEA (C := qual_c _ _ _ _ _ _ _ _ (by assumption) (by omega) (by first | assumption | k_ne) (by first | assumption | k_all) _ (by first | assumption | exact rfl)) (hp := ?_) (he := ?_)); (rotate_left; (intro k'_q hq'_q; first | exact ok_bad hq'_q | ((try cases hq'_q); intro e'_q h'_q tk'_q R'_q Ns'_q)); rotate_left; (intro name'_q k'_q hq'_q; first | exact bad_ok hq'_q | ((try cases hq'_q); intro t1'_q t2'_q h'_q tk'_q F'_q N'_q)))))
  exact True.intro
theorem hk307 : True := by
  k_with "mine call ref" => ((k_here; (k_dflt (show wpAny _ _ (call (Value.ref 238) _) _ _ _)); k_dflt (refine' useEA (C := var_c _ _ _ _ _ _ _ _ _ _ _ (by assumption) (by first | assumption | omega) (by first | assumption | omega) (by first | assumption | k_all) (by first | assumption | k_all) (by assumption) _ (by first | assumption | exact rfl)) (hp := ?_) (he := ?_)); (rotate_left; (intro msg'_q hm'_q e'_q h'_q tk'_q R'_q Ns'_q); rotate_left; intro kind'_q text'_q k'_q ho'_q y'_q t'_q l1_q l2_q l3_q h'_q tk'_q F'_q N'_q)))
  exact True.intro
theorem hk308 : True := by
  k_with "mine call ref" => ((k_here; (k_dflt (show wpAny _ _ (call (Value.ref 259) _) _ _ _)); k_dflt (refine' useEA (C := name_c _ _ _ _ _ _ _ _ _ _ _ (by assumption) (by first | assumption | omega) (by first | assumption | omega) (by first | assumption | k_all) (by first | assumption | k_all) (by assumption) _ (by assumption) _ (by first | assumption | exact rfl)) (hp := ?_) (he := ?_)); (rotate_left; (intro msg'_q hm'_q e'_q h'_q tk'_q R'_q Ns'_q); rotate_left; intro kind'_q text'_q k'_q ho'_q y'_q t'_q l1_q l2_q l3_q h'_q tk'_q F'_q N'_q)))
  exact True.intro

theorem literal_c (w : World) (x dx : Addr) (z : Sc) (n : Int) (tn : Tok) (us : Array Value) (ep : Nat) (c : Nat) (tq : Tok) (r : List Nat) (rest : List (Addr × Obj)) (hs : Sf z.T n (c :: r)) (hc : c ∈ r) (o1 : @LT.lt Nat _ dx x) (o2 : @LT.lt Nat _ x z.fl) (hr : ∀ p ∈ rest, p.1 ≠ dx) (hr2 : ∀ p ∈ rest, p.1 ≠ z.fl) (hus : us.size ≤ 100) (o : Out) (ho : litO (c :: r) = o) :
    Con w 4 60 231 [.ref x, .str (sgn (c :: r)) tq] ((x, instObj 269 dx) :: (dx, scD z n tn) :: (z.fl, listOf us ep) :: rest)
      (fun R => postOut x dx z n us ep rest o R) (fun _ => True) := by
  subst ho
  (unfold Con; intro mean mg mb dp un gd cn cs a ccd cl outer A₀ base h₀ L m s Q E B F X N T hk hd hu hret hex)
  (refine wpAny_call ?_; k_dflt (refine' code_def ?k1 ?k2 ?k3 ?k4 ?k5 ?kA ?kF ?kK ?k6 ?k7 ?k8 ?k9 ?kB ?_ ?c2 ?c3 ?c4 ?c5; (case kA => exact rfl); (case kF => exact rfl); (case kK => assumption); (case k1 => k_asm); (case k2 => k_asm); (case k3 => k_asm); (case k4 => first | k_asm | exact drop1 (by k_asm) | exact drop2 (by k_asm)); (case k5 => k_asm); (case k6 => k_is); (case k7 => k_is); (case k8 => ktr_room); (case k9 => first | exact BindsTo.of_eq rfl | exact binds_K (by k_in) rfl (by k_is) rfl rfl rfl); (case c5 => decide); (case kB => exact locs rfl); (case c2 => exact rfl); (case c3 => exact rfl); (case c4 => exact rfl); k_whole; intro g' L' h' FG' F' N' B' X' T'))
  (revert FG' F' N' B' X' T'; revert B F X N T hk hd hu hret hex; revert mean mg mb dp un gd cn cs a ccd cl outer A₀ base h₀ L m s Q E g' L' h'; revert w x dx z n tn us ep c tq r rest; refine ep12_all (by repeat' (first | exact ne_world | exact ne_sc | exact ⟨({} : Shared)⟩ | exact ⟨Wd.star⟩ | refine ne_pair ?_ ?_ | exact inferInstance)) ?_; intro eP eE; refine ((?eg1 : ∀ y0 y1 y2 y3 y4 y5 y6 y7 y8 y9 y10 y11, eP y0 y1 y2 y3 y4 y5 y6 y7 y8 y9 y10 y11) _ _ _ _ _ _ _ _ _ _ _ _); intro w x dx z n tn us ep c tq r rest; subst eE; set_option tactic.hygienic false in intro; set_option tactic.hygienic false in intros; revert FG' F' N' B' X' T'; revert B F X N T hk hd hu hret hex; revert mean mg mb dp un gd cn cs a ccd cl outer A₀ base h₀ L m s Q E g' L' h'; refine amb_all ?_; intro eP eE; refine ((?eg2 : ∀ y0 y1 y2 y3 y4 y5 y6 y7 y8 y9 y10 y11 y12 y13 y14 y15 y16 y17 y18 y19 y20 y21 y22, eP y0 y1 y2 y3 y4 y5 y6 y7 y8 y9 y10 y11 y12 y13 y14 y15 y16 y17 y18 y19 y20 y21 y22) _ _ _ _ _ _ _ _ _ _ _ _ _ _ _ _ _ _ _ _ _ _ _); intro mean mg mb dp un gd cn cs a ccd cl outer A₀ base h₀ L m s Q E g' L' h'; subst eE; set_option tactic.hygienic false in intro; set_option tactic.hygienic false in intros; skip)
  ((try dsimp only); (try k_lift B'))
  have hT := hs.sz
  have hn := hs.nn
  have hn2 : n ≤ 1000 := hs.n1000 (by simp)
  have hs1 := hs.tail
  have hf := hs1.find hc
  have hnf : ¬ Txt.find3 z.T (sgn (c :: r)) (n + 1) < 0 := by show ¬ Txt.find3 z.T ⟨#[c]⟩ (n + 1) < 0; rw [hf]; omega
  have hsl : Txt.slice z.T (some (n + 1)) (some (Txt.find3 z.T (sgn (c :: r)) (n + 1))) = txt (r.takeWhile (· != c)) := by
    show Txt.slice z.T (some (n + 1)) (some (Txt.find3 z.T ⟨#[c]⟩ (n + 1))) = _
    rw [hf]
    have := hs1.slice (k := (r.takeWhile (· != c)).length) (List.takeWhile_sublist _).length_le (fun h => by rw [h] at hc; cases hc)
    rw [this]
    show txt _ = txt _
    congr 1
    exact (List.prefix_iff_eq_take.mp (List.takeWhile_prefix _)).symm
  have en : Txt.find3 z.T (sgn (c :: r)) (n + 1) + 1 = n + (((r.takeWhile (· != c)).length + 2 : Nat) : Int) := by
    show Txt.find3 z.T ⟨#[c]⟩ (n + 1) + 1 = _
    rw [hf]
    omega
  k_steps
  exact fin_word hret (by k_asm) (by k_asm) (by assumption) (by assumption) (by assumption) rfl en rfl hsl
theorem hk309 : True := by
  k_with "mine call ref" => ((k_here; (k_dflt (show wpAny _ _ (call (Value.ref 231) _) _ _ _)); k_dflt (refine' useU (C := literal_c _ _ _ _ _ _ _ _ _ _ _ _ (by assumption) (by assumption) (by first | assumption | omega) (by first | assumption | omega) (by first | assumption | k_all) (by first | assumption | k_all) (by assumption) _ (by first | assumption | exact rfl)) (hp := ?_)); intro kind'_q text'_q k'_q ho'_q y'_q t'_q l1_q l2_q l3_q h'_q tk'_q F'_q N'_q))
  exact True.intro

-- B10
theorem hk348 : True := by
  k_with_none
  exact True.intro
theorem hk311 : True := by
  k_with "mine call ref" => ((k_here; (k_dflt (show wpAny _ _ (call (Value.ref 52) _) _ _ _)); k_dflt (refine' useU (C := is_space_c _ _ _ _ _ (by first | assumption | exact rfl)) (hp := ?_)); intro h'_q tk'_q F'_q N'_q))
  exact True.intro
theorem hk312 : True := by
  k_with "mine call ref" => ((k_here; (k_dflt (show wpAny _ _ (call (Value.ref 66) _) _ _ _)); k_dflt (refine' useU (C := is_name_start_c _ _ _ _ _ (by first | assumption | exact Sf.head (by assumption)) (by first | assumption | exact rfl)) (hp := ?_)); intro h'_q tk'_q F'_q N'_q))
  exact True.intro
theorem hk313 : True := by
  k_with "mine call ref" => ((k_here; (k_dflt (show wpAny _ _ (call (Value.ref 73) _) _ _ _)); k_dflt (refine' useU (C := is_name_char_c _ _ _ _ _ (by first | assumption | exact Sf.head (by assumption)) (by first | assumption | exact rfl)) (hp := ?_)); intro h'_q tk'_q F'_q N'_q))
  exact True.intro
theorem hk314 : True := by
  k_with "mine k_all" => (assumption)
  exact True.intro
theorem hk315 : True := by
  k_with "mine k_room" => (ktr_room)
  exact True.intro
theorem hk316 : True := by
  k_with "mine k_units" => (ktr_units)
  exact True.intro

theorem hk317 : True := by
  k_with "mine call ref" => ((k_here; (k_dflt (show wpAny _ _ (call (Value.ref 175) _) _ _ _)); k_dflt (refine' useU (C := sign0_c _ _ _ _ _ _ _ _ (by assumption)) (hp := ?_)); intro t'_q h'_q tk'_q F'_q N'_q))
  exact True.intro
theorem hk318 : True := by
  k_with "mine call ref" => ((k_here; (k_dflt (show wpAny _ _ (call (Value.ref 175) _) _ _ _)); k_dflt (refine' useU (C := sign1_c _ _ _ _ _ _ _ _ _ (by assumption)) (hp := ?_)); intro t'_q h'_q tk'_q F'_q N'_q))
  exact True.intro
theorem hk319 : True := by
  k_with "mine call ref" => ((k_here; (k_dflt (show wpAny _ _ (call (Value.ref 196) _) _ _ _)); k_dflt (refine' useU (C := skip_c _ _ _ _ _ _ _ _ (by assumption) (by first | assumption | k_ne) (by first | assumption | k_all)) (hp := ?_)); intro t'_q h'_q tk'_q F'_q N'_q))
  exact True.intro
theorem hk320 : True := by
  k_with "mine call ref" => ((k_here; (k_dflt (show wpAny _ _ (call (Value.ref 224) _) _ _ _)); k_dflt (refine' useU (C := figures_c _ _ _ _ _ _ _ _ (by assumption) (by first | assumption | k_ne) (by first | assumption | k_all)) (hp := ?_)); intro t'_q h'_q tk'_q F'_q N'_q))
  exact True.intro
theorem hk321 : True := by
  k_with "mine exec While" => ((k_here; (refine whl_start 0 (Hold.out ?_))))
  exact True.intro
theorem hk322 : True := by
  k_with "mine exec While Compare" => ((k_here; (refine whl_start 0 (Hold.out ?_))))
  exact True.intro
theorem hk323 : True := by
  k_with "mine exec While Compare cons nil" => ((k_here; (refine whl_start 0 (Hold.out ?_))))
  exact True.intro
theorem hk324 : True := by
  k_with "mine exec While BoolOp" => ((k_here; (refine whl_start 0 (Hold.out ?_))))
  exact True.intro
theorem hk325 : True := by
  k_with "mine subscriptTail" => ((k_here; (with_reducible show wpAny _ _ (subscriptTail _ _ (Value.str _ _) (Value.int _ _)) _ _ _); (refine sub_at (by assumption) ?_); intro t'_q k'_q))
  exact True.intro
theorem hk326 : True := by
  k_with "mine subscriptTail" => ((k_here; (with_reducible show wpAny _ _ (subscriptTail _ (PySem.Expr.Slice (some _) (some _) none _) (Value.str _ _) (Value.ref _)) _ _ _); (with_reducible rename Fr _ _ _ _ => F'_q); (with_reducible rename News _ _ _ _ => N'_q); (refine slice_strN_ss (hsz := ?hsz) (s := ⟨_, _, _, _, _⟩) F'_q N'_q ?_); (case hsz => (simp only [PySem.sizeLine_eq]; omega)); intro _ _ _ _ _))
  exact True.intro
theorem hk327 : True := by
  k_with "mine WhlIf" => (first | (refine WhlIf.yes (decide_eq_true (by assumption)) ?_) | (refine WhlIf.no (decide_eq_false (by assumption)) ?_))
  exact True.intro

theorem hk328 : True := by
  k_with "mine call ref" => ((k_here; (k_dflt (show wpAny _ _ (call (Value.ref 182) _) _ _ _)); k_dflt (refine' useU (C := add_c _ _ _ _ _ _ _ _ _ _ _ _ _ _ _ (by first | assumption | omega) (by first | assumption | omega) (by first | assumption | k_all) (by assumption)) (hp := ?_)); intro y'_q l1_q l2_q l3_q h'_q tk'_q F'_q N'_q))
  exact True.intro
theorem hk329 : True := by
  k_with "mine call ref" => ((k_here; (k_dflt (show wpAny _ _ (call (Value.ref 245) _) _ _ _)); k_dflt (refine' useU (C := plain_name_c _ _ _ _ _ _ _ _ (by assumption) (by first | assumption | k_ne) (by first | assumption | k_all)) (hp := ?_)); intro t1'_q t2'_q h'_q tk'_q F'_q N'_q))
  exact True.intro

theorem hk330 : True := by
  k_with "mine call ref" => ((k_here; (k_dflt (show wpAny _ _ (call (Value.ref 103) _) _ _ _)); k_dflt (refine' useEA (C := fault_c _ _ _ _) (hp := ?_) (he := ?_)); (rotate_left; exact True.intro); intro y'_q l1_q h'_q tk'_q F'_q N'_q))
  exact True.intro
theorem hk331 : True := by
  k_with "mine exec Raise some none" => ((k_here; k_dflt (refine' Raise_fault ?kX ?hh ?hsub ?hty ?_; (case kX => k_asm); (case hh => first | rfl | assumption); (case hsub => k_is); (case hty => k_is))))
  exact True.intro
theorem hk332 : True := by
  k_with "mine RaisF" => ((k_dflt (refine' raisF ?X ?F ?N ?_; (case F => k_asm); (case N => k_asm); (case X => k_asm))))
  exact True.intro
theorem hk333 : True := by
  k_with "mine leaving ref" => ((k_here; k_dflt (first
  | (refine' leave_first ?K ?F ?N ?lt ?_; (case K => k_asm); (case F => k_asm); (case N => k_asm); (case lt => assumption); intro h'_q R'_q)
  | (refine' leave_next ?K ?F ?R ?_; (case K => k_asm); (case F => k_asm); (case R => assumption); intro h'_q R'_q)); (try dsimp only)))
  exact True.intro

theorem hk334 : True := by
  k_with "mine units_room" => (ktr_units)
  exact True.intro
theorem hk335 : True := by
  k_with "mine compareOp In str ref" => ((k_here; k_dflt (refine' in_tup_K ?X ?F ?o ?i ?_; (case F => k_asm); (case X => k_asm); (case o => k_is); (case i => (repeat constructor)))))
  exact True.intro
theorem hk336 : True := by
  k_with "mine compareOp NotIn str ref" => ((k_here; k_dflt (refine' notin_tup_K ?X ?F ?o ?i ?_; (case F => k_asm); (case X => k_asm); (case o => k_is); (case i => (repeat constructor)))))
  exact True.intro
theorem hk337 : True := by
  k_with "mine compareOp Eq ref ref" => ((k_here; k_dflt (refine' eq_lens_K ?N ?a ?b ?z ?u ?_; (case N => k_asm); (case a => k_mem); (case b => k_mem); (case z => simp); (case u => ktr_units))))
  exact True.intro
theorem hk338 : True := by
  k_with "mine subscriptTail" => ((k_here; k_dflt (refine' last_K ?N ?a ?z ?_ ?s ?g; (case N => k_asm); (case a => k_mem); (case z => assumption); (case s => with_unfolding_all rfl); (case g => (intro _; with_unfolding_all rfl)))))
  exact True.intro
theorem hk339 : True := by
  k_with "mine compareOp Eq ref ref" => ((k_here; k_dflt (refine' eq_nil_K ?N ?a ?b ?u ?_; (case N => k_asm); (case a => k_mem); (case b => k_mem); (case u => ktr_units))))
  exact True.intro

theorem hk340 : True := by
  k_with "mine call ref" => ((k_here; (k_dflt (show wpAny _ _ (call (Value.ref 266) _) _ _ _)); k_dflt (refine' useEA (C := mark_c _ _ _ _ _ _ _ _ _ _ _ (by assumption) (by first | assumption | omega) (by first | assumption | omega) (by first | assumption | k_all) (by first | assumption | k_all) (by assumption) _ (by first | assumption | exact rfl)) (hp := ?_) (he := ?_)); (rotate_left; (intro msg'_q hm'_q e'_q h'_q tk'_q R'_q Ns'_q); rotate_left; intro kind'_q text'_q k'_q ho'_q y'_q t'_q l1_q l2_q l3_q h'_q tk'_q F'_q N'_q)))
  exact True.intro


theorem hk341 : True := by
  k_with "mine call ref" => ((k_here; (k_dflt (show wpAny _ _ (call (Value.ref 217) _) _ _ _)); k_dflt (refine' useEA (C := number_c _ _ _ _ _ _ _ _ _ _ _ (by assumption) (by first | assumption | omega) (by first | assumption | omega) (by first | assumption | k_all) (by first | assumption | k_all) (by assumption) _ (by first | assumption | exact rfl)) (hp := ?_) (he := ?_)); (rotate_left; (intro msg'_q hm'_q e'_q h'_q tk'_q R'_q Ns'_q); rotate_left; intro kind'_q text'_q k'_q ho'_q y'_q t'_q l1_q l2_q l3_q h'_q tk'_q F'_q N'_q)))
  exact True.intro
theorem hk342 : True := by
  k_with "mine call ref" => ((k_here; (k_dflt (show wpAny _ _ (call (Value.ref 203) _) _ _ _)); k_dflt (refine' useU (C := BehC.out (by assumption) _ _) (hp := ?_)); intro h'_q tk'_q F'_q N'_q))
  exact True.intro
theorem hk343 : True := by
  k_with "mine call ref" => ((k_here; (k_dflt (show wpAny _ _ (call (Value.ref 252) _) _ _ _)); k_dflt (refine' useEA (C := qual_c _ _ _ _ _ _ _ _ (by assumption) (by omega) (by first | assumption | k_ne) (by first | assumption | k_all) _ (by first | assumption | exact rfl)) (hp := ?_) (he := ?_)); (rotate_left; (intro k'_q hq'_q; first | exact ok_bad hq'_q | ((try cases hq'_q); intro e'_q h'_q tk'_q R'_q Ns'_q)); rotate_left; (intro name'_q k'_q hq'_q; first | exact bad_ok hq'_q | ((try cases hq'_q); intro t1'_q t2'_q h'_q tk'_q F'_q N'_q)))))
  exact True.intro
theorem hk344 : True := by
  k_with "mine call ref" => ((k_here; (k_dflt (show wpAny _ _ (call (Value.ref 238) _) _ _ _)); k_dflt (refine' useEA (C := var_c _ _ _ _ _ _ _ _ _ _ _ (by assumption) (by first | assumption | omega) (by first | assumption | omega) (by first | assumption | k_all) (by first | assumption | k_all) (by assumption) _ (by first | assumption | exact rfl)) (hp := ?_) (he := ?_)); (rotate_left; (intro msg'_q hm'_q e'_q h'_q tk'_q R'_q Ns'_q); rotate_left; intro kind'_q text'_q k'_q ho'_q y'_q t'_q l1_q l2_q l3_q h'_q tk'_q F'_q N'_q)))
  exact True.intro
theorem hk345 : True := by
  k_with "mine call ref" => ((k_here; (k_dflt (show wpAny _ _ (call (Value.ref 259) _) _ _ _)); k_dflt (refine' useEA (C := name_c _ _ _ _ _ _ _ _ _ _ _ (by assumption) (by first | assumption | omega) (by first | assumption | omega) (by first | assumption | k_all) (by first | assumption | k_all) (by assumption) _ (by assumption) _ (by first | assumption | exact rfl)) (hp := ?_) (he := ?_)); (rotate_left; (intro msg'_q hm'_q e'_q h'_q tk'_q R'_q Ns'_q); rotate_left; intro kind'_q text'_q k'_q ho'_q y'_q t'_q l1_q l2_q l3_q h'_q tk'_q F'_q N'_q)))
  exact True.intro
theorem hk346 : True := by
  k_with "mine call ref" => ((k_here; (k_dflt (show wpAny _ _ (call (Value.ref 231) _) _ _ _)); k_dflt (refine' useU (C := literal_c _ _ _ _ _ _ _ _ _ _ _ _ (by assumption) (by assumption) (by first | assumption | omega) (by first | assumption | omega) (by first | assumption | k_all) (by first | assumption | k_all) (by assumption) _ (by first | assumption | exact rfl)) (hp := ?_)); intro kind'_q text'_q k'_q ho'_q y'_q t'_q l1_q l2_q l3_q h'_q tk'_q F'_q N'_q))
  exact True.intro

theorem star_fin {x dx : Addr} {z : Sc} {n n2 : Int} {us : Array Value} {ep : Nat} {rest : List (Addr × Obj)} {kind text : Str} {h₀ : Heap} {L : Addr} {m : Str → Option Value} {s : Shared} {Q : Value → Shared → Prop} {h' : Heap} {tk : Nat} {y : Wk} {t : Tok}
    (hret : postO x dx z n us ep rest kind text 1 (Ret h₀ L m s Q)) (F : Fr h₀ L h' m) (N : News h₀ L h' ((x, instObj 269 dx) :: (dx, scD z (n + 1) t) :: (z.fl, listOf (us.push (.ref y.a)) (ep + 1)) :: (y.a, instObj 149 y.d) :: (y.d, wdD y kind text n2) :: rest))
    (l1 : @LT.lt Nat _ z.fl y.d) (l2 : @LT.lt Nat _ y.d y.a) (l3 : ∀ p ∈ rest, p.1 < y.d) (e : n2 = n) : Q .none { s with heap := h', toks := tk } := by
  subst e
  exact hret y t l1 l2 l3 h' tk F N
theorem step_c (w : World) (x dx : Addr) (z : Sc) (n : Int) (tn : Tok) (us : Array Value) (ep : Nat) (c : Nat) (r : List Nat) (rest : List (Addr × Obj)) (hs : Sf z.T n (c :: r)) (o1 : @LT.lt Nat _ dx x) (o2 : @LT.lt Nat _ x z.fl) (hr : ∀ p ∈ rest, p.1 ≠ dx) (hr2 : ∀ p ∈ rest, p.1 ≠ z.fl) (hus : us.size ≤ 100) (b : Bool) (hb : BehC w x dx z us ep rest b)
    (hq : [Str.ofString "'", Str.ofString "\""].any (fun x => x == sgn (c :: r)) = true → c ∈ r) (o : Out) (ho : stepO b n (c :: r) = o) :
    ConE w 7 140 210 [.ref x] ((x, instObj 269 dx) :: (dx, scD z n tn) :: (z.fl, listOf us ep) :: rest)
      (fun R => postOut x dx z n us ep rest o R) (fun R => epostOut rest o R) := by
  subst ho
  (unfold ConE; intro mean mg mb dp un gd cn cs a ccd cl outer A₀ base h₀ L m s Q E B F X N T hk hd hu hret hex)
  (refine wpAny_call ?_; k_dflt (refine' code_def ?k1 ?k2 ?k3 ?k4 ?k5 ?kA ?kF ?kK ?k6 ?k7 ?k8 ?k9 ?kB ?_ ?c2 ?c3 ?c4 ?c5; (case kA => exact rfl); (case kF => exact rfl); (case kK => assumption); (case k1 => k_asm); (case k2 => k_asm); (case k3 => k_asm); (case k4 => first | k_asm | exact drop1 (by k_asm) | exact drop2 (by k_asm)); (case k5 => k_asm); (case k6 => k_is); (case k7 => k_is); (case k8 => ktr_room); (case k9 => first | exact BindsTo.of_eq rfl | exact binds_K (by k_in) rfl (by k_is) rfl rfl rfl); (case c5 => decide); (case kB => exact locs rfl); (case c2 => exact rfl); (case c3 => exact rfl); (case c4 => exact rfl); k_whole; intro g' L' h' FG' F' N' B' X' T'))
  (revert FG' F' N' B' X' T'; revert B F X N T hk hd hu hret hex; revert mean mg mb dp un gd cn cs a ccd cl outer A₀ base h₀ L m s Q E g' L' h'; revert hs o1 o2 hr hr2 hus hb hq; revert w x dx z n tn us ep c r rest b; refine ep12_all (by repeat' (first | exact ne_world | exact ne_sc | exact ⟨({} : Shared)⟩ | exact ⟨Wd.star⟩ | refine ne_pair ?_ ?_ | exact inferInstance)) ?_; intro eP eE; refine ((?eg1 : ∀ y0 y1 y2 y3 y4 y5 y6 y7 y8 y9 y10 y11, eP y0 y1 y2 y3 y4 y5 y6 y7 y8 y9 y10 y11) _ _ _ _ _ _ _ _ _ _ _ _); intro w x dx z n tn us ep c r rest b; subst eE; set_option tactic.hygienic false in intro; set_option tactic.hygienic false in intros; revert FG' F' N' B' X' T'; revert B F X N T hk hd hu hret hex; revert mean mg mb dp un gd cn cs a ccd cl outer A₀ base h₀ L m s Q E g' L' h'; refine amb_all ?_; intro eP eE; refine ((?eg2 : ∀ y0 y1 y2 y3 y4 y5 y6 y7 y8 y9 y10 y11 y12 y13 y14 y15 y16 y17 y18 y19 y20 y21 y22, eP y0 y1 y2 y3 y4 y5 y6 y7 y8 y9 y10 y11 y12 y13 y14 y15 y16 y17 y18 y19 y20 y21 y22) _ _ _ _ _ _ _ _ _ _ _ _ _ _ _ _ _ _ _ _ _ _ _); intro mean mg mb dp un gd cn cs a ccd cl outer A₀ base h₀ L m s Q E g' L' h'; subst eE; set_option tactic.hygienic false in intro; set_option tactic.hygienic false in intros; skip)
  ((try dsimp only); (try k_lift B'))
  have hT := hs.sz
  have hn := hs.nn
  have hn2 : n ≤ 1000 := hs.n1000 (by simp)
  have facts : ∀ b, isFig (sgn (c :: r)) = b → (Builtin.Str.occurrences (Str.ofString "0123456789") (sgn (c :: r)) 0 (Str.ofString "0123456789").length 1).isEmpty = !b := by
    intro b h
    cases b with
    | true => exact isFig_t h
    | false => exact isFig_f h
  have facts2 : ∀ b, isFig (sgn (c :: r).tail) = b → (Builtin.Str.occurrences (Str.ofString "0123456789") (sgn (c :: r).tail) 0 (Str.ofString "0123456789").length 1).isEmpty = !b := by
    intro b h
    cases b with
    | true => exact isFig_t h
    | false => exact isFig_f h
  cases h1 : isFig (sgn (c :: r)) with
  | true =>
    have t1 := facts _ h1
    rw [Bool.not_true] at t1
    k_steps
    all_goals first | (refine' fin_word hret ?F ?N ?l1 ?l2 ?l3 ?e ?hn ?hk ?ht; (case F => k_asm); (case N => k_asm); (case l1 => assumption); (case l2 => assumption); (case l3 => assumption); (case hk => exact rfl); (case ht => exact rfl); (case hn => exact rfl); (case e => (simp only [stepO, h1, *, if_true, if_false, Bool.false_eq_true, Bool.and_true, Bool.true_and, Bool.and_false, Bool.false_and, Bool.not_true, Bool.not_false, Bool.or_false, Bool.false_or, Bool.or_true, Bool.true_or]))) | (refine' Fly.out (hex _ ?e) ?R ?FG ?sub; (case R => assumption); (case FG => assumption); (case sub => (intro p hp; (try simp only [List.mem_cons]); first | exact hp | exact .inr hp | exact .inr (.inr hp) | exact .inr (.inr (.inr hp)) | exact .inr (.inr (.inr (.inr hp))))); (case e => (simp only [stepO, h1, *, if_true, if_false, Bool.false_eq_true, Bool.and_true, Bool.true_and, Bool.and_false, Bool.false_and, Bool.not_true, Bool.not_false, Bool.or_false, Bool.false_or, Bool.or_true, Bool.true_or])))
  | false =>
    have t1 := facts _ h1
    rw [Bool.not_false] at t1
    cases hd : ((sgn (c :: r) == Str.ofString ".") && ((sgn (c :: r).tail != Str.ofString "") && isFig (sgn (c :: r).tail))) with
    | true =>
      obtain ⟨h2, h34⟩ := Bool.and_eq_true_iff.mp hd
      obtain ⟨h3, h4⟩ := Bool.and_eq_true_iff.mp h34
      have t4 := facts2 _ h4
      rw [Bool.not_true] at t4
      k_steps
      all_goals first | (refine' fin_word hret ?F ?N ?l1 ?l2 ?l3 ?e ?hn ?hk ?ht; (case F => k_asm); (case N => k_asm); (case l1 => assumption); (case l2 => assumption); (case l3 => assumption); (case hk => exact rfl); (case ht => exact rfl); (case hn => exact rfl); (case e => (simp only [stepO, h1, hd, *, if_true, if_false, Bool.false_eq_true, Bool.and_true, Bool.true_and, Bool.and_false, Bool.false_and, Bool.not_true, Bool.not_false, Bool.or_false, Bool.false_or, Bool.or_true, Bool.true_or]))) | (refine' Fly.out (hex _ ?e) ?R ?FG ?sub; (case R => assumption); (case FG => assumption); (case sub => (intro p hp; (try simp only [List.mem_cons]); first | exact hp | exact .inr hp | exact .inr (.inr hp) | exact .inr (.inr (.inr hp)) | exact .inr (.inr (.inr (.inr hp))))); (case e => (simp only [stepO, h1, hd, *, if_true, if_false, Bool.false_eq_true, Bool.and_true, Bool.true_and, Bool.and_false, Bool.false_and, Bool.not_true, Bool.not_false, Bool.or_false, Bool.false_or, Bool.or_true, Bool.true_or])))
    | false =>
      have t2 : (sgn (c :: r) == Str.ofString ".") = false ∨ ((sgn (c :: r) == Str.ofString ".") = true ∧ ((sgn (c :: r).tail != Str.ofString "") = false ∨ (isFig (sgn (c :: r).tail) = false ∧ (sgn (c :: r).tail != Str.ofString "") = true))) := by
        cases q1 : (sgn (c :: r) == Str.ofString ".") with
        | false => exact .inl rfl
        | true =>
          cases q2 : (sgn (c :: r).tail != Str.ofString "") with
          | false => exact .inr ⟨rfl, .inl rfl⟩
          | true => rw [q1, q2, Bool.true_and, Bool.true_and] at hd; exact .inr ⟨rfl, .inr ⟨hd, rfl⟩⟩
      cases h5 : [Str.ofString "'", Str.ofString "\""].any (fun x => x == sgn (c :: r)) with
      | true =>
        have hc := hq h5
        have h2 : (sgn (c :: r) == Str.ofString ".") = false := by
          have : c = 39 ∨ c = 34 := by
            simp only [List.any_cons, List.any_nil, Bool.or_false, Bool.or_eq_true, beq_iff_eq] at h5
            rcases h5 with h | h
            · exact .inl (List.head_eq_of_cons_eq (congrArg (fun s => s.cps.toList) h).symm)
            · exact .inr (List.head_eq_of_cons_eq (congrArg (fun s => s.cps.toList) h).symm)
          rcases this with rfl | rfl <;> rfl
        k_steps
        all_goals first | (refine' fin_word hret ?F ?N ?l1 ?l2 ?l3 ?e ?hn ?hk ?ht; (case F => k_asm); (case N => k_asm); (case l1 => assumption); (case l2 => assumption); (case l3 => assumption); (case hk => exact rfl); (case ht => exact rfl); (case hn => exact rfl); (case e => (simp only [stepO, h1, hd, h5, *, if_true, if_false, Bool.false_eq_true, Bool.and_true, Bool.true_and, Bool.and_false, Bool.false_and, Bool.not_true, Bool.not_false, Bool.or_false, Bool.false_or, Bool.or_true, Bool.true_or]))) | (refine' Fly.out (hex _ ?e) ?R ?FG ?sub; (case R => assumption); (case FG => assumption); (case sub => (intro p hp; (try simp only [List.mem_cons]); first | exact hp | exact .inr hp | exact .inr (.inr hp) | exact .inr (.inr (.inr hp)) | exact .inr (.inr (.inr (.inr hp))))); (case e => (simp only [stepO, h1, hd, h5, *, if_true, if_false, Bool.false_eq_true, Bool.and_true, Bool.true_and, Bool.and_false, Bool.false_and, Bool.not_true, Bool.not_false, Bool.or_false, Bool.false_or, Bool.or_true, Bool.true_or])))
      | false =>
        cases h6 : (sgn (c :: r) == Str.ofString "$") with
        | true =>
          have h2 : (sgn (c :: r) == Str.ofString ".") = false := by rw [beq_iff_eq.mp h6]; rfl
          k_steps
          all_goals first | (refine' fin_word hret ?F ?N ?l1 ?l2 ?l3 ?e ?hn ?hk ?ht; (case F => k_asm); (case N => k_asm); (case l1 => assumption); (case l2 => assumption); (case l3 => assumption); (case hk => exact rfl); (case ht => exact rfl); (case hn => exact rfl); (case e => (simp only [stepO, h1, hd, h5, h6, *, if_true, if_false, Bool.false_eq_true, Bool.and_true, Bool.true_and, Bool.and_false, Bool.false_and, Bool.not_true, Bool.not_false, Bool.or_false, Bool.false_or, Bool.or_true, Bool.true_or]))) | (refine' Fly.out (hex _ ?e) ?R ?FG ?sub; (case R => assumption); (case FG => assumption); (case sub => (intro p hp; (try simp only [List.mem_cons]); first | exact hp | exact .inr hp | exact .inr (.inr hp) | exact .inr (.inr (.inr hp)) | exact .inr (.inr (.inr (.inr hp))))); (case e => (simp only [stepO, h1, hd, h5, h6, *, if_true, if_false, Bool.false_eq_true, Bool.and_true, Bool.true_and, Bool.and_false, Bool.false_and, Bool.not_true, Bool.not_false, Bool.or_false, Bool.false_or, Bool.or_true, Bool.true_or])))
        | false =>
          cases h7 : (sgn (c :: r) == Str.ofString "*") with
          | true =>
            have h2 : (sgn (c :: r) == Str.ofString ".") = false := by rw [beq_iff_eq.mp h7]; rfl
            cases b with
            | true =>
              k_steps
              have en1 : n + 1 - 1 = n := by omega
              have hw := hret (Str.ofString "operator") (Str.ofString "*") 1 (by simp only [stepO, h1, h2, h5, h6, h7, if_true, if_false, Bool.false_eq_true, Bool.and_true, Bool.true_and, Bool.and_false, Bool.false_and, Bool.not_true, Bool.not_false, Bool.or_false, Bool.false_or, Bool.or_true, Bool.true_or]; try rfl)
              refine' star_fin hw ?F ?N ?l1 ?l2 ?l3 en1
              case F => k_asm
              case N => k_asm
              case l1 => assumption
              case l2 => assumption
              case l3 => assumption
            | false =>
              k_steps
              have en1 : n + 1 - 1 = n := by omega
              have hw := hret (Str.ofString "name") (Str.ofString "*") 1 (by simp only [stepO, h1, h2, h5, h6, h7, if_true, if_false, Bool.false_eq_true, Bool.and_true, Bool.true_and, Bool.and_false, Bool.false_and, Bool.not_true, Bool.not_false, Bool.or_false, Bool.false_or, Bool.or_true, Bool.true_or]; try rfl)
              refine' star_fin hw ?F ?N ?l1 ?l2 ?l3 en1
              case F => k_asm
              case N => k_asm
              case l1 => assumption
              case l2 => assumption
              case l3 => assumption
          | false =>
            cases h8 : isStart ⟨#[c]⟩ with
            | true =>
              have h8' : isStart (sgn (c :: r)) = true := h8
              have h2 : (sgn (c :: r) == Str.ofString ".") = false := by
                cases q : (sgn (c :: r) == Str.ofString ".") with
                | false => rfl
                | true => rw [beq_iff_eq.mp q] at h8'; cases h8'
              cases h9 : (sgn (c :: r) != Str.ofString ":") with
              | true =>
                k_steps
                all_goals first | (refine' fin_word hret ?F ?N ?l1 ?l2 ?l3 ?e ?hn ?hk ?ht; (case F => k_asm); (case N => k_asm); (case l1 => assumption); (case l2 => assumption); (case l3 => assumption); (case hk => exact rfl); (case ht => exact rfl); (case hn => exact rfl); (case e => (simp only [stepO, h1, hd, h5, h6, h7, h8', h9, *, if_true, if_false, Bool.false_eq_true, Bool.and_true, Bool.true_and, Bool.and_false, Bool.false_and, Bool.not_true, Bool.not_false, Bool.or_false, Bool.false_or, Bool.or_true, Bool.true_or]))) | (refine' Fly.out (hex _ ?e) ?R ?FG ?sub; (case R => assumption); (case FG => assumption); (case sub => (intro p hp; (try simp only [List.mem_cons]); first | exact hp | exact .inr hp | exact .inr (.inr hp) | exact .inr (.inr (.inr hp)) | exact .inr (.inr (.inr (.inr hp))))); (case e => (simp only [stepO, h1, hd, h5, h6, h7, h8', h9, *, if_true, if_false, Bool.false_eq_true, Bool.and_true, Bool.true_and, Bool.and_false, Bool.false_and, Bool.not_true, Bool.not_false, Bool.or_false, Bool.false_or, Bool.or_true, Bool.true_or])))
              | false =>
                k_steps
                all_goals first | (refine' fin_word hret ?F ?N ?l1 ?l2 ?l3 ?e ?hn ?hk ?ht; (case F => k_asm); (case N => k_asm); (case l1 => assumption); (case l2 => assumption); (case l3 => assumption); (case hk => exact rfl); (case ht => exact rfl); (case hn => exact rfl); (case e => (simp only [stepO, h1, hd, h5, h6, h7, h8', h9, *, if_true, if_false, Bool.false_eq_true, Bool.and_true, Bool.true_and, Bool.and_false, Bool.false_and, Bool.not_true, Bool.not_false, Bool.or_false, Bool.false_or, Bool.or_true, Bool.true_or]))) | (refine' Fly.out (hex _ ?e) ?R ?FG ?sub; (case R => assumption); (case FG => assumption); (case sub => (intro p hp; (try simp only [List.mem_cons]); first | exact hp | exact .inr hp | exact .inr (.inr hp) | exact .inr (.inr (.inr hp)) | exact .inr (.inr (.inr (.inr hp))))); (case e => (simp only [stepO, h1, hd, h5, h6, h7, h8', h9, *, if_true, if_false, Bool.false_eq_true, Bool.and_true, Bool.true_and, Bool.and_false, Bool.false_and, Bool.not_true, Bool.not_false, Bool.or_false, Bool.false_or, Bool.or_true, Bool.true_or])))
            | false =>
              have h8' : isStart (sgn (c :: r)) = false := h8
              rcases t2 with h2 | ⟨h2, h3 | ⟨h4, h3⟩⟩
              ·
                k_steps
                all_goals first | (refine' fin_word hret ?F ?N ?l1 ?l2 ?l3 ?e ?hn ?hk ?ht; (case F => k_asm); (case N => k_asm); (case l1 => assumption); (case l2 => assumption); (case l3 => assumption); (case hk => exact rfl); (case ht => exact rfl); (case hn => exact rfl); (case e => (simp only [stepO, h1, hd, h5, h6, h7, h8', *, if_true, if_false, Bool.false_eq_true, Bool.and_true, Bool.true_and, Bool.and_false, Bool.false_and, Bool.not_true, Bool.not_false, Bool.or_false, Bool.false_or, Bool.or_true, Bool.true_or]))) | (refine' Fly.out (hex _ ?e) ?R ?FG ?sub; (case R => assumption); (case FG => assumption); (case sub => (intro p hp; (try simp only [List.mem_cons]); first | exact hp | exact .inr hp | exact .inr (.inr hp) | exact .inr (.inr (.inr hp)) | exact .inr (.inr (.inr (.inr hp))))); (case e => (simp only [stepO, h1, hd, h5, h6, h7, h8', *, if_true, if_false, Bool.false_eq_true, Bool.and_true, Bool.true_and, Bool.and_false, Bool.false_and, Bool.not_true, Bool.not_false, Bool.or_false, Bool.false_or, Bool.or_true, Bool.true_or])))
              ·
                k_steps
                all_goals first | (refine' fin_word hret ?F ?N ?l1 ?l2 ?l3 ?e ?hn ?hk ?ht; (case F => k_asm); (case N => k_asm); (case l1 => assumption); (case l2 => assumption); (case l3 => assumption); (case hk => exact rfl); (case ht => exact rfl); (case hn => exact rfl); (case e => (simp only [stepO, h1, hd, h5, h6, h7, h8', *, if_true, if_false, Bool.false_eq_true, Bool.and_true, Bool.true_and, Bool.and_false, Bool.false_and, Bool.not_true, Bool.not_false, Bool.or_false, Bool.false_or, Bool.or_true, Bool.true_or]))) | (refine' Fly.out (hex _ ?e) ?R ?FG ?sub; (case R => assumption); (case FG => assumption); (case sub => (intro p hp; (try simp only [List.mem_cons]); first | exact hp | exact .inr hp | exact .inr (.inr hp) | exact .inr (.inr (.inr hp)) | exact .inr (.inr (.inr (.inr hp))))); (case e => (simp only [stepO, h1, hd, h5, h6, h7, h8', *, if_true, if_false, Bool.false_eq_true, Bool.and_true, Bool.true_and, Bool.and_false, Bool.false_and, Bool.not_true, Bool.not_false, Bool.or_false, Bool.false_or, Bool.or_true, Bool.true_or])))
              ·
                have t4 := isFig_f h4
                k_steps
                all_goals first | (refine' fin_word hret ?F ?N ?l1 ?l2 ?l3 ?e ?hn ?hk ?ht; (case F => k_asm); (case N => k_asm); (case l1 => assumption); (case l2 => assumption); (case l3 => assumption); (case hk => exact rfl); (case ht => exact rfl); (case hn => exact rfl); (case e => (simp only [stepO, h1, hd, h5, h6, h7, h8', *, if_true, if_false, Bool.false_eq_true, Bool.and_true, Bool.true_and, Bool.and_false, Bool.false_and, Bool.not_true, Bool.not_false, Bool.or_false, Bool.false_or, Bool.or_true, Bool.true_or]))) | (refine' Fly.out (hex _ ?e) ?R ?FG ?sub; (case R => assumption); (case FG => assumption); (case sub => (intro p hp; (try simp only [List.mem_cons]); first | exact hp | exact .inr hp | exact .inr (.inr hp) | exact .inr (.inr (.inr hp)) | exact .inr (.inr (.inr (.inr hp))))); (case e => (simp only [stepO, h1, hd, h5, h6, h7, h8', *, if_true, if_false, Bool.false_eq_true, Bool.and_true, Bool.true_and, Bool.and_false, Bool.false_and, Bool.not_true, Bool.not_false, Bool.or_false, Bool.false_or, Bool.or_true, Bool.true_or])))
theorem hk347 : True := by
  k_with "mine call ref" => ((k_here; (k_dflt (show wpAny _ _ (call (Value.ref 210) _) _ _ _)); k_dflt (refine' useEA (C := step_c _ _ _ _ _ _ _ _ _ _ _ (by assumption) (by first | assumption | omega) (by first | assumption | omega) (by first | assumption | k_all) (by first | assumption | k_all) (by assumption) _ (by assumption) (by assumption) _ (by first | assumption | exact rfl)) (hp := ?_) (he := ?_)); (rotate_left; (intro msg'_q hm'_q e'_q h'_q tk'_q R'_q Ns'_q); rotate_left; intro kind'_q text'_q k'_q ho'_q y'_q t'_q l1_q l2_q l3_q h'_q tk'_q F'_q N'_q)))
  exact True.intro

-- B11
theorem hk379 : True := by
  k_with_none
  exact True.intro
theorem hk349 : True := by
  k_with "mine call ref" => ((k_here; (k_dflt (show wpAny _ _ (call (Value.ref 52) _) _ _ _)); k_dflt (refine' useU (C := is_space_c _ _ _ _ _ (by first | assumption | exact rfl)) (hp := ?_)); intro h'_q tk'_q F'_q N'_q))
  exact True.intro
theorem hk350 : True := by
  k_with "mine call ref" => ((k_here; (k_dflt (show wpAny _ _ (call (Value.ref 66) _) _ _ _)); k_dflt (refine' useU (C := is_name_start_c _ _ _ _ _ (by first | assumption | exact Sf.head (by assumption)) (by first | assumption | exact rfl)) (hp := ?_)); intro h'_q tk'_q F'_q N'_q))
  exact True.intro
theorem hk351 : True := by
  k_with "mine call ref" => ((k_here; (k_dflt (show wpAny _ _ (call (Value.ref 73) _) _ _ _)); k_dflt (refine' useU (C := is_name_char_c _ _ _ _ _ (by first | assumption | exact Sf.head (by assumption)) (by first | assumption | exact rfl)) (hp := ?_)); intro h'_q tk'_q F'_q N'_q))
  exact True.intro
theorem hk352 : True := by
  k_with "mine k_all" => (assumption)
  exact True.intro
theorem hk353 : True := by
  k_with "mine k_room" => (ktr_room)
  exact True.intro
theorem hk354 : True := by
  k_with "mine k_units" => (ktr_units)
  exact True.intro

theorem hk355 : True := by
  k_with "mine call ref" => ((k_here; (k_dflt (show wpAny _ _ (call (Value.ref 175) _) _ _ _)); k_dflt (refine' useU (C := sign0_c _ _ _ _ _ _ _ _ (by assumption)) (hp := ?_)); intro t'_q h'_q tk'_q F'_q N'_q))
  exact True.intro
theorem hk356 : True := by
  k_with "mine call ref" => ((k_here; (k_dflt (show wpAny _ _ (call (Value.ref 175) _) _ _ _)); k_dflt (refine' useU (C := sign1_c _ _ _ _ _ _ _ _ _ (by assumption)) (hp := ?_)); intro t'_q h'_q tk'_q F'_q N'_q))
  exact True.intro
theorem hk357 : True := by
  k_with "mine call ref" => ((k_here; (k_dflt (show wpAny _ _ (call (Value.ref 196) _) _ _ _)); k_dflt (refine' useU (C := skip_c _ _ _ _ _ _ _ _ (by assumption) (by first | assumption | k_ne) (by first | assumption | k_all)) (hp := ?_)); intro t'_q h'_q tk'_q F'_q N'_q))
  exact True.intro
theorem hk358 : True := by
  k_with "mine call ref" => ((k_here; (k_dflt (show wpAny _ _ (call (Value.ref 224) _) _ _ _)); k_dflt (refine' useU (C := figures_c _ _ _ _ _ _ _ _ (by assumption) (by first | assumption | k_ne) (by first | assumption | k_all)) (hp := ?_)); intro t'_q h'_q tk'_q F'_q N'_q))
  exact True.intro
theorem hk359 : True := by
  k_with "mine exec While" => ((k_here; (refine whl_start 0 (Hold.out ?_))))
  exact True.intro
theorem hk360 : True := by
  k_with "mine exec While Compare" => ((k_here; (refine whl_start 0 (Hold.out ?_))))
  exact True.intro
theorem hk361 : True := by
  k_with "mine exec While Compare cons nil" => ((k_here; (refine whl_start 0 (Hold.out ?_))))
  exact True.intro
theorem hk362 : True := by
  k_with "mine exec While BoolOp" => ((k_here; (refine whl_start 0 (Hold.out ?_))))
  exact True.intro
theorem hk363 : True := by
  k_with "mine subscriptTail" => ((k_here; (with_reducible show wpAny _ _ (subscriptTail _ _ (Value.str _ _) (Value.int _ _)) _ _ _); (refine sub_at (by assumption) ?_); intro t'_q k'_q))
  exact True.intro
theorem hk364 : True := by
  k_with "mine subscriptTail" => ((k_here; (with_reducible show wpAny _ _ (subscriptTail _ (PySem.Expr.Slice (some _) (some _) none _) (Value.str _ _) (Value.ref _)) _ _ _); (with_reducible rename Fr _ _ _ _ => F'_q); (with_reducible rename News _ _ _ _ => N'_q); (refine slice_strN_ss (hsz := ?hsz) (s := ⟨_, _, _, _, _⟩) F'_q N'_q ?_); (case hsz => (simp only [PySem.sizeLine_eq]; omega)); intro _ _ _ _ _))
  exact True.intro
theorem hk365 : True := by
  k_with "mine WhlIf" => (first | (refine WhlIf.yes (decide_eq_true (by assumption)) ?_) | (refine WhlIf.no (decide_eq_false (by assumption)) ?_))
  exact True.intro

theorem hk366 : True := by
  k_with "mine call ref" => ((k_here; (k_dflt (show wpAny _ _ (call (Value.ref 182) _) _ _ _)); k_dflt (refine' useU (C := add_c _ _ _ _ _ _ _ _ _ _ _ _ _ _ _ (by first | assumption | omega) (by first | assumption | omega) (by first | assumption | k_all) (by assumption)) (hp := ?_)); intro y'_q l1_q l2_q l3_q h'_q tk'_q F'_q N'_q))
  exact True.intro
theorem hk367 : True := by
  k_with "mine call ref" => ((k_here; (k_dflt (show wpAny _ _ (call (Value.ref 245) _) _ _ _)); k_dflt (refine' useU (C := plain_name_c _ _ _ _ _ _ _ _ (by assumption) (by first | assumption | k_ne) (by first | assumption | k_all)) (hp := ?_)); intro t1'_q t2'_q h'_q tk'_q F'_q N'_q))
  exact True.intro

theorem hk368 : True := by
  k_with "mine call ref" => ((k_here; (k_dflt (show wpAny _ _ (call (Value.ref 103) _) _ _ _)); k_dflt (refine' useEA (C := fault_c _ _ _ _) (hp := ?_) (he := ?_)); (rotate_left; exact True.intro); intro y'_q l1_q h'_q tk'_q F'_q N'_q))
  exact True.intro
theorem hk369 : True := by
  k_with "mine exec Raise some none" => ((k_here; k_dflt (refine' Raise_fault ?kX ?hh ?hsub ?hty ?_; (case kX => k_asm); (case hh => first | rfl | assumption); (case hsub => k_is); (case hty => k_is))))
  exact True.intro
theorem hk370 : True := by
  k_with "mine RaisF" => ((k_dflt (refine' raisF ?X ?F ?N ?_; (case F => k_asm); (case N => k_asm); (case X => k_asm))))
  exact True.intro
theorem hk371 : True := by
  k_with "mine leaving ref" => ((k_here; k_dflt (first
  | (refine' leave_first ?K ?F ?N ?lt ?_; (case K => k_asm); (case F => k_asm); (case N => k_asm); (case lt => assumption); intro h'_q R'_q)
  | (refine' leave_next ?K ?F ?R ?_; (case K => k_asm); (case F => k_asm); (case R => assumption); intro h'_q R'_q)); (try dsimp only)))
  exact True.intro

theorem hk372 : True := by
  k_with "mine units_room" => (ktr_units)
  exact True.intro
theorem hk373 : True := by
  k_with "mine compareOp In str ref" => ((k_here; k_dflt (refine' in_tup_K ?X ?F ?o ?i ?_; (case F => k_asm); (case X => k_asm); (case o => k_is); (case i => (repeat constructor)))))
  exact True.intro
theorem hk374 : True := by
  k_with "mine compareOp NotIn str ref" => ((k_here; k_dflt (refine' notin_tup_K ?X ?F ?o ?i ?_; (case F => k_asm); (case X => k_asm); (case o => k_is); (case i => (repeat constructor)))))
  exact True.intro
theorem hk375 : True := by
  k_with "mine compareOp Eq ref ref" => ((k_here; k_dflt (refine' eq_lens_K ?N ?a ?b ?z ?u ?_; (case N => k_asm); (case a => k_mem); (case b => k_mem); (case z => simp); (case u => ktr_units))))
  exact True.intro
theorem hk376 : True := by
  k_with "mine subscriptTail" => ((k_here; k_dflt (refine' last_K ?N ?a ?z ?_ ?s ?g; (case N => k_asm); (case a => k_mem); (case z => assumption); (case s => with_unfolding_all rfl); (case g => (intro _; with_unfolding_all rfl)))))
  exact True.intro
theorem hk377 : True := by
  k_with "mine compareOp Eq ref ref" => ((k_here; k_dflt (refine' eq_nil_K ?N ?a ?b ?u ?_; (case N => k_asm); (case a => k_mem); (case b => k_mem); (case u => ktr_units))))
  exact True.intro

theorem hk378 : True := by
  k_with "mine call ref" => ((k_here; (k_dflt (show wpAny _ _ (call (Value.ref 210) _) _ _ _)); k_dflt (refine' useEA (C := step_c _ _ _ _ _ _ _ _ _ _ _ (by assumption) (by first | assumption | omega) (by first | assumption | omega) (by first | assumption | k_all) (by first | assumption | k_all) (by assumption) _ (by assumption) (by assumption) _ (by assumption)) (hp := ?_) (he := ?_)); (rotate_left; (intro msg'_q hm'_q; first | exact word_fault hm'_q | ((try cases hm'_q); intro e'_q h'_q tk'_q R'_q Ns'_q)); rotate_left; (intro kind'_q text'_q k'_q ho'_q; first | exact fault_word ho'_q | ((try cases ho'_q); intro y'_q t'_q l1_q l2_q l3_q h'_q tk'_q F'_q N'_q)))))
  exact True.intro
abbrev Ent := Wk × RowT
def usOf : List Ent → Array Value
  | [] => #[]
  | e :: l => (usOf l).push (.ref e.1.a)
def wl : List Ent → List (Addr × Obj)
  | [] => []
  | e :: l => (e.1.a, instObj 149 e.1.d) :: (e.1.d, wdD e.1 e.2.1 e.2.2.1 e.2.2.2) :: wl l
def bOf : List Ent → Bool
  | [] => false
  | e :: _ => behF e.2.1 e.2.2.1
def rowsOf (l : List Ent) : List RowT := l.reverse.map (·.2)
theorem us_size : ∀ l : List Ent, (usOf l).size = l.length
  | [] => rfl
  | e :: l => by rw [usOf, Array.size_push, us_size l]; rfl
theorem beh_of (w : World) (x dx : Addr) (z : Sc) (ep : Nat) (l : List Ent) (rest : List (Addr × Obj)) (hl : l.length ≤ 100) : BehC w x dx z (usOf l) ep (wl l ++ rest) (bOf l) := by
  cases l with
  | nil => exact behind_nil_c w x dx z ep _
  | cons e l => exact behind_c w x dx z ep (usOf l) e.1 e.2.1 e.2.2.1 e.2.2.2 (wl l ++ rest) (by rw [us_size]; simp at hl; omega) _ rfl
def joinR (rows : List RowT) : Sum Str (List RowT) → Sum Str (List RowT)
  | .inl m => .inl m
  | .inr l => .inr (rows ++ l)
structure RunI (x dx : Addr) (z : Sc) (rest : List (Addr × Obj)) (res : Sum Str (List RowT)) (n' : Int) (r' : List Nat) (l : List Ent) (cnt' : Nat) (res' : Sum Str (List RowT)) : Prop where
  sf : Sf z.T n' r'
  runs : Runs cnt' (bOf l) n' r' res'
  len : l.length + cnt' ≤ 100
  hr : ∀ p ∈ wl l ++ rest, p.1 ≠ dx
  hr2 : ∀ p ∈ wl l ++ rest, p.1 ≠ z.fl
  lt : ∀ p ∈ wl l, @LT.lt Nat _ z.fl p.1
  join : res = joinR (rowsOf l) res'
def RunJ (g' : Heap) (L' x dx : Addr) (z : Sc) (rest : List (Addr × Obj)) (res : Sum Str (List RowT)) (s : Shared) (k : Nat) (s' : Shared) : Prop :=
  ∃ n' r' t' ep' l cnt' res' h' tk', s' = { s with heap := h', toks := tk' } ∧ Fr g' L' h' (fun y => List.lookup y [(Str.ofString "self", Value.ref x)]) ∧ News g' L' h' ((x, instObj 269 dx) :: (dx, scD z n' t') :: (z.fl, listOf (usOf l) ep') :: (wl l ++ rest)) ∧ RunI x dx z rest res n' r' l cnt' res' ∧ r'.length = k
theorem joinR_snoc (rows : List RowT) (row : RowT) (l : List RowT) : joinR rows (.inr (row :: l)) = joinR (rows ++ [row]) (.inr l) := by
  simp [joinR]
theorem RunI.next {x dx : Addr} {z : Sc} {rest : List (Addr × Obj)} {res : Sum Str (List RowT)} {n' : Int} {c : Nat} {r' : List Nat} {l : List Ent} {cnt' : Nat} {res' res1 : Sum Str (List RowT)} {y : Wk} {kind text : Str} {k : Nat} (I : RunI x dx z rest res n' (c :: r') l (cnt' + 1) res') (o1 : @LT.lt Nat _ dx x) (o2 : @LT.lt Nat _ x z.fl)
    (l1 : @LT.lt Nat _ z.fl y.d) (l2 : @LT.lt Nat _ y.d y.a) (ht : Runs cnt' (behF kind text) (n' + (k : Int) + (spN ((c :: r').drop k) : Int)) (((c :: r').drop k).drop (spN ((c :: r').drop k))) res1) (hj : joinR (rowsOf l) res' = joinR (rowsOf l ++ [(kind, text, n')]) res1) :
    RunI x dx z rest res (n' + (k : Int) + (spN ((c :: r').drop k) : Int)) (((c :: r').drop k).drop (spN ((c :: r').drop k))) ((y, (kind, text, n')) :: l) cnt' res1 := by
  have hy : ∀ p ∈ wl ((y, (kind, text, n')) :: l), p ∈ wl l ∨ @LT.lt Nat _ z.fl p.1 := by
    intro p hp
    simp only [wl, List.mem_cons] at hp
    rcases hp with rfl | rfl | hp
    · exact .inr (Nat.lt_trans l1 l2)
    · exact .inr l1
    · exact .inl hp
  refine ⟨(I.sf.on k).on _, ht, by have := I.len; simp only [List.length_cons]; omega, ?_, ?_, ?_, ?_⟩
  · intro p hp
    rcases List.mem_append.mp hp with hp | hp
    · rcases hy p hp with hp | hp
      · exact I.hr p (List.mem_append_left _ hp)
      · intro q; rw [q] at hp; have : @LT.lt Nat _ dx z.fl := Nat.lt_trans o1 o2; exact absurd hp (Nat.lt_asymm this)
    · exact I.hr p (List.mem_append_right _ hp)
  · intro p hp
    rcases List.mem_append.mp hp with hp | hp
    · rcases hy p hp with hp | hp
      · exact I.hr2 p (List.mem_append_left _ hp)
      · intro q; rw [q] at hp; exact absurd hp (Nat.lt_irrefl _)
    · exact I.hr2 p (List.mem_append_right _ hp)
  · intro p hp
    rcases hy p hp with hp | hp
    · exact I.lt p hp
    · exact hp
  · rw [I.join, hj]
    simp [rowsOf]
theorem fin_run {x dx : Addr} {z : Sc} {rest : List (Addr × Obj)} {res : Sum Str (List RowT)} {n' : Int} {t : Tok} {l : List Ent} {y : Wk} {kind text : Str} {place : Int} {ep : Nat} {h₀ : Heap} {L : Addr} {m : Str → Option Value} {s : Shared} {Q : Value → Shared → Prop} {h' : Heap} {tk : Nat}
    (hret : ∀ rows, res = .inr rows → ∀ (l : List Ent) ep' n' t, rowsOf l = rows → l.length ≤ 101 → (∀ p ∈ wl l, @LT.lt Nat _ z.fl p.1) → Ret h₀ L m s Q (.ref z.fl) ((x, instObj 269 dx) :: (dx, scD z n' t) :: (z.fl, listOf (usOf l) ep') :: (wl l ++ rest)))
    (F : Fr h₀ L h' m) (N : News h₀ L h' ((x, instObj 269 dx) :: (dx, scD z n' t) :: (z.fl, listOf ((usOf l).push (.ref y.a)) ep) :: (y.a, instObj 149 y.d) :: (y.d, wdD y kind text place) :: (wl l ++ rest)))
    (l1 : @LT.lt Nat _ z.fl y.d) (l2 : @LT.lt Nat _ y.d y.a) (hj : res = joinR (rowsOf l) (.inr [(kind, text, place)])) (hlen : l.length ≤ 100) (hlt : ∀ p ∈ wl l, @LT.lt Nat _ z.fl p.1) : Q (.ref z.fl) { s with heap := h', toks := tk } := by
  refine hret _ hj ((y, (kind, text, place)) :: l) ep n' t (by simp [rowsOf]) (by simp only [List.length_cons]; omega) ?_ h' tk F N
  intro p hp
  simp only [wl, List.mem_cons] at hp
  rcases hp with rfl | rfl | hp
  · exact Nat.lt_trans l1 l2
  · exact l1
  · exact hlt p hp
theorem next_run {g' : Heap} {L' x dx : Addr} {z : Sc} {rest : List (Addr × Obj)} {res : Sum Str (List RowT)} {s : Shared} {n' : Int} {c : Nat} {r' : List Nat} {l : List Ent} {cnt' : Nat} {res' res1 : Sum Str (List RowT)} {y : Wk} {kind text : Str} {k kk : Nat} {ep : Nat} {t : Tok} {h' : Heap} {tk : Nat} (I : RunI x dx z rest res n' (c :: r') l (cnt' + 1) res') (o1 : @LT.lt Nat _ dx x) (o2 : @LT.lt Nat _ x z.fl)
    (hk : (c :: r').length = kk) (h1 : 1 ≤ k) (ht : Runs cnt' (behF kind text) (n' + (k : Int) + (spN ((c :: r').drop k) : Int)) (((c :: r').drop k).drop (spN ((c :: r').drop k))) res1) (hj : joinR (rowsOf l) res' = joinR (rowsOf l ++ [(kind, text, n')]) res1)
    (F : Fr g' L' h' (fun y => List.lookup y [(Str.ofString "self", Value.ref x)])) (N : News g' L' h' ((x, instObj 269 dx) :: (dx, scD z (n' + (k : Int) + (spN ((c :: r').drop k) : Int)) t) :: (z.fl, listOf ((usOf l).push (.ref y.a)) ep) :: (y.a, instObj 149 y.d) :: (y.d, wdD y kind text n') :: (wl l ++ rest)))
    (l1 : @LT.lt Nat _ z.fl y.d) (l2 : @LT.lt Nat _ y.d y.a) : ∃ k', k' < kk ∧ RunJ g' L' x dx z rest res s k' { s with heap := h', toks := tk } := by
  refine ⟨_, ?_, _, _, t, ep, _, cnt', res1, h', tk, rfl, F, N, I.next o1 o2 l1 l2 ht hj, rfl⟩
  rw [← hk, List.length_drop, List.length_drop, List.length_cons]
  omega
theorem run_c (w : World) (x dx : Addr) (z : Sc) (n : Int) (tn : Tok) (ep : Nat) (r : List Nat) (rest : List (Addr × Obj)) (hs : Sf z.T n r) (o1 : @LT.lt Nat _ dx x) (o2 : @LT.lt Nat _ x z.fl) (hr : ∀ p ∈ rest, p.1 ≠ dx) (hr2 : ∀ p ∈ rest, p.1 ≠ z.fl) (cnt : Nat) (hcnt : cnt ≤ 100) (res : Sum Str (List RowT)) (hres : Runs cnt false (n + (spN r : Int)) (r.drop (spN r)) res) :
    ConE w 8 170 189 [.ref x] ((x, instObj 269 dx) :: (dx, scD z n tn) :: (z.fl, listOf #[] ep) :: rest)
      (fun R => ∀ rows, res = .inr rows → ∀ (l : List Ent) ep' n' t, rowsOf l = rows → l.length ≤ 101 → (∀ p ∈ wl l, @LT.lt Nat _ z.fl p.1) → R (.ref z.fl) ((x, instObj 269 dx) :: (dx, scD z n' t) :: (z.fl, listOf (usOf l) ep') :: (wl l ++ rest)))
      (fun R => ∀ m, res = .inl m → R m rest) := by
  (unfold ConE; intro mean mg mb dp un gd cn cs a ccd cl outer A₀ base h₀ L m s Q E B F X N T hk hd hu hret hex)
  (refine wpAny_call ?_; k_dflt (refine' code_def ?k1 ?k2 ?k3 ?k4 ?k5 ?kA ?kF ?kK ?k6 ?k7 ?k8 ?k9 ?kB ?_ ?c2 ?c3 ?c4 ?c5; (case kA => exact rfl); (case kF => exact rfl); (case kK => assumption); (case k1 => k_asm); (case k2 => k_asm); (case k3 => k_asm); (case k4 => first | k_asm | exact drop1 (by k_asm) | exact drop2 (by k_asm)); (case k5 => k_asm); (case k6 => k_is); (case k7 => k_is); (case k8 => ktr_room); (case k9 => first | exact BindsTo.of_eq rfl | exact binds_K (by k_in) rfl (by k_is) rfl rfl rfl); (case c5 => decide); (case kB => exact locs rfl); (case c2 => exact rfl); (case c3 => exact rfl); (case c4 => exact rfl); k_whole; intro g' L' h' FG' F' N' B' X' T'))
  (revert FG' F' N' B' X' T'; revert B F X N T hk hd hu hret hex; revert mean mg mb dp un gd cn cs a ccd cl outer A₀ base h₀ L m s Q E g' L' h'; revert hs o1 o2 hr hr2 hcnt hres; revert w x dx z n tn ep r rest cnt res; refine ep11_all (by repeat' (first | exact ne_world | exact ne_sc | exact ⟨({} : Shared)⟩ | exact ⟨Wd.star⟩ | refine ne_pair ?_ ?_ | exact inferInstance)) ?_; intro eP eE; refine ((?eg1 : ∀ y0 y1 y2 y3 y4 y5 y6 y7 y8 y9 y10, eP y0 y1 y2 y3 y4 y5 y6 y7 y8 y9 y10) _ _ _ _ _ _ _ _ _ _ _); intro w x dx z n tn ep r rest cnt res; subst eE; set_option tactic.hygienic false in intro; set_option tactic.hygienic false in intros; revert FG' F' N' B' X' T'; revert B F X N T hk hd hu hret hex; revert mean mg mb dp un gd cn cs a ccd cl outer A₀ base h₀ L m s Q E g' L' h'; refine amb_all ?_; intro eP eE; refine ((?eg2 : ∀ y0 y1 y2 y3 y4 y5 y6 y7 y8 y9 y10 y11 y12 y13 y14 y15 y16 y17 y18 y19 y20 y21 y22, eP y0 y1 y2 y3 y4 y5 y6 y7 y8 y9 y10 y11 y12 y13 y14 y15 y16 y17 y18 y19 y20 y21 y22) _ _ _ _ _ _ _ _ _ _ _ _ _ _ _ _ _ _ _ _ _ _ _); intro mean mg mb dp un gd cn cs a ccd cl outer A₀ base h₀ L m s Q E g' L' h'; subst eE; set_option tactic.hygienic false in intro; set_option tactic.hygienic false in intros; skip)
  ((try dsimp only); (try k_lift B'))
  have hs0 := hs.on (spN r)
  k_steps
  unfold Hold
  refine wh_rule (J := RunJ g' L' x dx z rest res s) (by first | passes_own | with_unfolding_all passes_own) ?_ _ _ ⟨_, _, _, ep, [], cnt, res, _, _, rfl, (by k_asm), (by k_asm), ⟨hs0, hres, (by simpa using hcnt), hr, hr2, (fun p hp => nomatch hp), (by cases res <;> rfl)⟩, rfl⟩
  clear hs hs0 hres hr hr2
  rintro k s' ⟨n', r', t', ep', l, cnt', res', h1, tk1, rfl, F1, N1, I, hk1⟩
  have hs := I.sf
  have hruns := I.runs
  have hr := I.hr
  have hr2 := I.hr2
  have hlen := I.len
  have hT := hs.sz
  have hn := hs.nn
  have hl := hs.len
  have hus : (usOf l).size ≤ 100 := by rw [us_size]; omega
  have hb := beh_of w x dx z ep' l rest (by omega)
  cases hruns with
  | nil _ _ =>
    have hl' : ¬ n' < (z.T.length : Int) := fun q => hl.mp q rfl
    k_steps
    refine' fin_run hret ?F ?N ?l1 ?l2 ?j ?le ?lt
    case F => k_asm
    case N => k_asm
    case l1 => assumption
    case l2 => assumption
    case j => exact I.join
    case le => omega
    case lt => exact I.lt
  | fault h hq =>
    have hl' : n' < (z.T.length : Int) := hl.mpr (by simp)
    k_steps
    refine' Fly.out (hex _ I.join) ?R ?FG ?sub
    case R => assumption
    case FG => assumption
    case sub => exact fun p hp => List.mem_append_right _ hp
  | @bad _ _ c r0 kind0 text0 k0 j0 cnt0 m0 h hq hk hj t =>
    subst hj
    have hl' : n' < (z.T.length : Int) := hl.mpr (by simp)
    have hs1 := hs.on k0
    k_steps
    refine' next_run I o1 o2 hk1 hk t rfl ?F ?N ?l1 ?l2
    case F => k_asm
    case N => k_asm
    case l1 => assumption
    case l2 => assumption
  | @word _ _ c r0 kind0 text0 k0 j0 cnt0 l0 h hq hk hj t =>
    subst hj
    have hl' : n' < (z.T.length : Int) := hl.mpr (by simp)
    have hs1 := hs.on k0
    k_steps
    refine' next_run I o1 o2 hk1 hk t (joinR_snoc _ _ _) ?F ?N ?l1 ?l2
    case F => k_asm
    case N => k_asm
    case l1 => assumption
    case l2 => assumption

-- B12
theorem hk410 : True := by
  k_with_none
  exact True.intro
theorem hk380 : True := by
  k_with "mine call ref" => ((k_here; (k_dflt (show wpAny _ _ (call (Value.ref 52) _) _ _ _)); k_dflt (refine' useU (C := is_space_c _ _ _ _ _ (by first | assumption | exact rfl)) (hp := ?_)); intro h'_q tk'_q F'_q N'_q))
  exact True.intro
theorem hk381 : True := by
  k_with "mine call ref" => ((k_here; (k_dflt (show wpAny _ _ (call (Value.ref 66) _) _ _ _)); k_dflt (refine' useU (C := is_name_start_c _ _ _ _ _ (by first | assumption | exact Sf.head (by assumption)) (by first | assumption | exact rfl)) (hp := ?_)); intro h'_q tk'_q F'_q N'_q))
  exact True.intro
theorem hk382 : True := by
  k_with "mine call ref" => ((k_here; (k_dflt (show wpAny _ _ (call (Value.ref 73) _) _ _ _)); k_dflt (refine' useU (C := is_name_char_c _ _ _ _ _ (by first | assumption | exact Sf.head (by assumption)) (by first | assumption | exact rfl)) (hp := ?_)); intro h'_q tk'_q F'_q N'_q))
  exact True.intro
theorem hk383 : True := by
  k_with "mine k_all" => (assumption)
  exact True.intro
theorem hk384 : True := by
  k_with "mine k_room" => (ktr_room)
  exact True.intro
theorem hk385 : True := by
  k_with "mine k_units" => (ktr_units)
  exact True.intro

theorem hk386 : True := by
  k_with "mine call ref" => ((k_here; (k_dflt (show wpAny _ _ (call (Value.ref 175) _) _ _ _)); k_dflt (refine' useU (C := sign0_c _ _ _ _ _ _ _ _ (by assumption)) (hp := ?_)); intro t'_q h'_q tk'_q F'_q N'_q))
  exact True.intro
theorem hk387 : True := by
  k_with "mine call ref" => ((k_here; (k_dflt (show wpAny _ _ (call (Value.ref 175) _) _ _ _)); k_dflt (refine' useU (C := sign1_c _ _ _ _ _ _ _ _ _ (by assumption)) (hp := ?_)); intro t'_q h'_q tk'_q F'_q N'_q))
  exact True.intro
theorem hk388 : True := by
  k_with "mine call ref" => ((k_here; (k_dflt (show wpAny _ _ (call (Value.ref 196) _) _ _ _)); k_dflt (refine' useU (C := skip_c _ _ _ _ _ _ _ _ (by assumption) (by first | assumption | k_ne) (by first | assumption | k_all)) (hp := ?_)); intro t'_q h'_q tk'_q F'_q N'_q))
  exact True.intro
theorem hk389 : True := by
  k_with "mine call ref" => ((k_here; (k_dflt (show wpAny _ _ (call (Value.ref 224) _) _ _ _)); k_dflt (refine' useU (C := figures_c _ _ _ _ _ _ _ _ (by assumption) (by first | assumption | k_ne) (by first | assumption | k_all)) (hp := ?_)); intro t'_q h'_q tk'_q F'_q N'_q))
  exact True.intro
theorem hk390 : True := by
  k_with "mine exec While" => ((k_here; (refine whl_start 0 (Hold.out ?_))))
  exact True.intro
theorem hk391 : True := by
  k_with "mine exec While Compare" => ((k_here; (refine whl_start 0 (Hold.out ?_))))
  exact True.intro
theorem hk392 : True := by
  k_with "mine exec While Compare cons nil" => ((k_here; (refine whl_start 0 (Hold.out ?_))))
  exact True.intro
theorem hk393 : True := by
  k_with "mine exec While BoolOp" => ((k_here; (refine whl_start 0 (Hold.out ?_))))
  exact True.intro
theorem hk394 : True := by
  k_with "mine subscriptTail" => ((k_here; (with_reducible show wpAny _ _ (subscriptTail _ _ (Value.str _ _) (Value.int _ _)) _ _ _); (refine sub_at (by assumption) ?_); intro t'_q k'_q))
  exact True.intro
theorem hk395 : True := by
  k_with "mine subscriptTail" => ((k_here; (with_reducible show wpAny _ _ (subscriptTail _ (PySem.Expr.Slice (some _) (some _) none _) (Value.str _ _) (Value.ref _)) _ _ _); (with_reducible rename Fr _ _ _ _ => F'_q); (with_reducible rename News _ _ _ _ => N'_q); (refine slice_strN_ss (hsz := ?hsz) (s := ⟨_, _, _, _, _⟩) F'_q N'_q ?_); (case hsz => (simp only [PySem.sizeLine_eq]; omega)); intro _ _ _ _ _))
  exact True.intro
theorem hk396 : True := by
  k_with "mine WhlIf" => (first | (refine WhlIf.yes (decide_eq_true (by assumption)) ?_) | (refine WhlIf.no (decide_eq_false (by assumption)) ?_))
  exact True.intro

theorem hk397 : True := by
  k_with "mine call ref" => ((k_here; (k_dflt (show wpAny _ _ (call (Value.ref 182) _) _ _ _)); k_dflt (refine' useU (C := add_c _ _ _ _ _ _ _ _ _ _ _ _ _ _ _ (by first | assumption | omega) (by first | assumption | omega) (by first | assumption | k_all) (by assumption)) (hp := ?_)); intro y'_q l1_q l2_q l3_q h'_q tk'_q F'_q N'_q))
  exact True.intro
theorem hk398 : True := by
  k_with "mine call ref" => ((k_here; (k_dflt (show wpAny _ _ (call (Value.ref 245) _) _ _ _)); k_dflt (refine' useU (C := plain_name_c _ _ _ _ _ _ _ _ (by assumption) (by first | assumption | k_ne) (by first | assumption | k_all)) (hp := ?_)); intro t1'_q t2'_q h'_q tk'_q F'_q N'_q))
  exact True.intro

theorem hk399 : True := by
  k_with "mine call ref" => ((k_here; (k_dflt (show wpAny _ _ (call (Value.ref 103) _) _ _ _)); k_dflt (refine' useEA (C := fault_c _ _ _ _) (hp := ?_) (he := ?_)); (rotate_left; exact True.intro); intro y'_q l1_q h'_q tk'_q F'_q N'_q))
  exact True.intro
theorem hk400 : True := by
  k_with "mine exec Raise some none" => ((k_here; k_dflt (refine' Raise_fault ?kX ?hh ?hsub ?hty ?_; (case kX => k_asm); (case hh => first | rfl | assumption); (case hsub => k_is); (case hty => k_is))))
  exact True.intro
theorem hk401 : True := by
  k_with "mine RaisF" => ((k_dflt (refine' raisF ?X ?F ?N ?_; (case F => k_asm); (case N => k_asm); (case X => k_asm))))
  exact True.intro
theorem hk402 : True := by
  k_with "mine leaving ref" => ((k_here; k_dflt (first
  | (refine' leave_first ?K ?F ?N ?lt ?_; (case K => k_asm); (case F => k_asm); (case N => k_asm); (case lt => assumption); intro h'_q R'_q)
  | (refine' leave_next ?K ?F ?R ?_; (case K => k_asm); (case F => k_asm); (case R => assumption); intro h'_q R'_q)); (try dsimp only)))
  exact True.intro

theorem hk403 : True := by
  k_with "mine units_room" => (ktr_units)
  exact True.intro
theorem hk404 : True := by
  k_with "mine compareOp In str ref" => ((k_here; k_dflt (refine' in_tup_K ?X ?F ?o ?i ?_; (case F => k_asm); (case X => k_asm); (case o => k_is); (case i => (repeat constructor)))))
  exact True.intro
theorem hk405 : True := by
  k_with "mine compareOp NotIn str ref" => ((k_here; k_dflt (refine' notin_tup_K ?X ?F ?o ?i ?_; (case F => k_asm); (case X => k_asm); (case o => k_is); (case i => (repeat constructor)))))
  exact True.intro
theorem hk406 : True := by
  k_with "mine compareOp Eq ref ref" => ((k_here; k_dflt (refine' eq_lens_K ?N ?a ?b ?z ?u ?_; (case N => k_asm); (case a => k_mem); (case b => k_mem); (case z => simp); (case u => ktr_units))))
  exact True.intro
theorem hk407 : True := by
  k_with "mine subscriptTail" => ((k_here; k_dflt (refine' last_K ?N ?a ?z ?_ ?s ?g; (case N => k_asm); (case a => k_mem); (case z => assumption); (case s => with_unfolding_all rfl); (case g => (intro _; with_unfolding_all rfl)))))
  exact True.intro
theorem hk408 : True := by
  k_with "mine compareOp Eq ref ref" => ((k_here; k_dflt (refine' eq_nil_K ?N ?a ?b ?u ?_; (case N => k_asm); (case a => k_mem); (case b => k_mem); (case u => ktr_units))))
  exact True.intro

theorem run_start (w : World) (x dx fl : Addr) (T : Str) (h1 h2 h3 : Int) (k1 k2 k3 tT tn : Tok) (ep : Nat) (rest : List (Addr × Obj)) (hs : Sf T 0 T.cps.toList) (o1 : @LT.lt Nat _ dx x) (o2 : @LT.lt Nat _ x fl) (hr : ∀ p ∈ rest, p.1 < dx) (hr2 : AllLt fl rest) (cnt : Nat) (hcnt : cnt ≤ 100) (res : Sum Str (List RowT)) (hres : Runs cnt false (0 + (spN T.cps.toList : Int)) (T.cps.toList.drop (spN T.cps.toList)) res) :
    ConE w 8 170 189 [.ref x] ((fl, listOf #[] ep) :: (x, instObj 269 dx) :: (dx, dictOf [⟨h1, .str (Str.ofString "text") k1, .str T tT⟩, ⟨h2, .str (Str.ofString "at") k2, .int 0 tn⟩, ⟨h3, .str (Str.ofString "found") k3, .ref fl⟩] 3) :: rest)
      (fun R => ∀ rows, res = .inr rows → ∀ (l : List Ent) ep', rowsOf l = rows → l.length ≤ 101 → (∀ p ∈ wl l, @LT.lt Nat _ fl p.1) → R (.ref fl) ((fl, listOf (usOf l) ep') :: (wl l ++ rest)))
      (fun R => ∀ m, res = .inl m → R m rest) := by
  have C := run_c w x dx ⟨h1, h2, h3, k1, k2, k3, T, tT, fl⟩ 0 tn ep T.cps.toList rest hs o1 o2 (fun p hp => Nat.ne_of_lt (hr p hp)) (fun p hp => Nat.ne_of_lt (allLt_to hr2 p hp)) cnt hcnt res hres
  (unfold ConE; intro mean mg mb dp un gd cn cs a ccd cl outer A₀ base h₀ L m s Q E B F X N T hk hd hu hret hex)
  refine useE C B F X (fun p hp => N p ?_) T hk hd hu ?_ hex
  · simp only [List.mem_cons] at hp ⊢
    rcases hp with h | h | h | h
    · exact .inr (.inl h)
    · exact .inr (.inr (.inl h))
    · exact .inl h
    · exact .inr (.inr (.inr h))
  · intro rows e l ep' n' t e1 e2 e3 h' tk' F' N'
    exact hret rows e l ep' e1 e2 e3 h' tk' F' (fun p hp => N' p (List.mem_cons_of_mem _ (List.mem_cons_of_mem _ hp)))
theorem hk409 : True := by
  k_with "mine call ref" => ((k_here; (k_dflt (show wpAny _ _ (call (Value.ref 189) _) _ _ _)); k_dflt (refine' useEA (C := run_start _ _ _ _ _ _ _ _ _ _ _ _ _ _ _ (by assumption) (by omega) (by omega) (by assumption) (by exact (‹_ ∧ _ ∧ AllLt _ _›).2.2) _ (by assumption) _ (by assumption)) (hp := ?_) (he := ?_)); (rotate_left; (intro m'_q hm'_q e'_q h'_q tk'_q R'_q Ns'_q); rotate_left; intro rows'_q hr'_q l'_q ep'_q hl'_q hl2'_q hl3'_q h'_q tk'_q F'_q N'_q)))
  exact True.intro
theorem path_words_c (w : World) (T : Str) (t : Tok) (news : List (Addr × Obj)) (hT : T.length ≤ 1000) (hlo : ∀ c ∈ T.cps.toList, c < 128) (cnt : Nat) (hcnt : cnt ≤ 100) (res : Sum Str (List RowT)) (hres : Runs cnt false (0 + (spN T.cps.toList : Int)) (T.cps.toList.drop (spN T.cps.toList)) res) :
    ConE w 9 200 280 [.str T t] news
      (fun R => ∀ rows, res = .inr rows → ∀ fl (l : List Ent) ep, rowsOf l = rows → l.length ≤ 101 → (∀ p ∈ news, p.1 < fl) → (∀ p ∈ wl l, @LT.lt Nat _ fl p.1) → R (.ref fl) ((fl, listOf (usOf l) ep) :: (wl l ++ news)))
      (fun R => ∀ m, res = .inl m → R m news) := by
  have hs : Sf T 0 T.cps.toList := ⟨Int.le_refl 0, rfl, hT, hlo⟩
  (unfold ConE; intro mean mg mb dp un gd cn cs a ccd cl outer A₀ base h₀ L m s Q E B F X N T hk hd hu hret hex)
  (refine wpAny_call ?_; k_dflt (refine' code_def ?k1 ?k2 ?k3 ?k4 ?k5 ?kA ?kF ?kK ?k6 ?k7 ?k8 ?k9 ?kB ?_ ?c2 ?c3 ?c4 ?c5; (case kA => exact rfl); (case kF => exact rfl); (case kK => assumption); (case k1 => k_asm); (case k2 => k_asm); (case k3 => k_asm); (case k4 => first | k_asm | exact drop1 (by k_asm) | exact drop2 (by k_asm)); (case k5 => k_asm); (case k6 => k_is); (case k7 => k_is); (case k8 => ktr_room); (case k9 => first | exact BindsTo.of_eq rfl | exact binds_K (by k_in) rfl (by k_is) rfl rfl rfl); (case c5 => decide); (case kB => exact locs rfl); (case c2 => exact rfl); (case c3 => exact rfl); (case c4 => exact rfl); k_whole; intro g' L' h' FG' F' N' B' X' T'; (try dsimp only); (try k_lift B'); (try k_fold)))
  k_steps
  · refine' hret _ ?a _ _ _ ?b ?c ?d ?e _ _ ?F ?N
    case F => k_asm
    case N => k_asm
    case a => assumption
    case b => assumption
    case c => assumption
    case d => exact allLt_to (‹_ ∧ _ ∧ AllLt _ _›).2.2
    case e => assumption
  · refine' Fly.out (hex _ ?a) ?R ?FG ?sub
    case R => assumption
    case FG => assumption
    case a => assumption
    case sub => exact fun p hp => hp

-- C0
theorem hk428 : True := by
  k_with_none
  exact True.intro
theorem hk411 : True := by
  k_with "mine call ref" => ((k_here; (k_dflt (show wpAny _ _ (call (Value.ref 52) _) _ _ _)); k_dflt (refine' useU (C := is_space_c _ _ _ _ _ (by first | assumption | exact rfl)) (hp := ?_)); intro h'_q tk'_q F'_q N'_q))
  exact True.intro
theorem hk412 : True := by
  k_with "mine call ref" => ((k_here; (k_dflt (show wpAny _ _ (call (Value.ref 66) _) _ _ _)); k_dflt (refine' useU (C := is_name_start_c _ _ _ _ _ (by first | assumption | exact Sf.head (by assumption)) (by first | assumption | exact rfl)) (hp := ?_)); intro h'_q tk'_q F'_q N'_q))
  exact True.intro
theorem hk413 : True := by
  k_with "mine call ref" => ((k_here; (k_dflt (show wpAny _ _ (call (Value.ref 73) _) _ _ _)); k_dflt (refine' useU (C := is_name_char_c _ _ _ _ _ (by first | assumption | exact Sf.head (by assumption)) (by first | assumption | exact rfl)) (hp := ?_)); intro h'_q tk'_q F'_q N'_q))
  exact True.intro
theorem hk414 : True := by
  k_with "mine k_all" => (assumption)
  exact True.intro
theorem hk415 : True := by
  k_with "mine k_room" => (ktr_room)
  exact True.intro
theorem hk416 : True := by
  k_with "mine k_units" => (ktr_units)
  exact True.intro

theorem hk417 : True := by
  k_with "mine call ref" => ((k_here; (k_dflt (show wpAny _ _ (call (Value.ref 175) _) _ _ _)); k_dflt (refine' useU (C := sign0_c _ _ _ _ _ _ _ _ (by assumption)) (hp := ?_)); intro t'_q h'_q tk'_q F'_q N'_q))
  exact True.intro
theorem hk418 : True := by
  k_with "mine call ref" => ((k_here; (k_dflt (show wpAny _ _ (call (Value.ref 175) _) _ _ _)); k_dflt (refine' useU (C := sign1_c _ _ _ _ _ _ _ _ _ (by assumption)) (hp := ?_)); intro t'_q h'_q tk'_q F'_q N'_q))
  exact True.intro
theorem hk419 : True := by
  k_with "mine call ref" => ((k_here; (k_dflt (show wpAny _ _ (call (Value.ref 196) _) _ _ _)); k_dflt (refine' useU (C := skip_c _ _ _ _ _ _ _ _ (by assumption) (by first | assumption | k_ne) (by first | assumption | k_all)) (hp := ?_)); intro t'_q h'_q tk'_q F'_q N'_q))
  exact True.intro
theorem hk420 : True := by
  k_with "mine call ref" => ((k_here; (k_dflt (show wpAny _ _ (call (Value.ref 224) _) _ _ _)); k_dflt (refine' useU (C := figures_c _ _ _ _ _ _ _ _ (by assumption) (by first | assumption | k_ne) (by first | assumption | k_all)) (hp := ?_)); intro t'_q h'_q tk'_q F'_q N'_q))
  exact True.intro
theorem hk421 : True := by
  k_with "mine exec While" => ((k_here; (refine whl_start 0 (Hold.out ?_))))
  exact True.intro
theorem hk422 : True := by
  k_with "mine exec While Compare" => ((k_here; (refine whl_start 0 (Hold.out ?_))))
  exact True.intro
theorem hk423 : True := by
  k_with "mine exec While Compare cons nil" => ((k_here; (refine whl_start 0 (Hold.out ?_))))
  exact True.intro
theorem hk424 : True := by
  k_with "mine exec While BoolOp" => ((k_here; (refine whl_start 0 (Hold.out ?_))))
  exact True.intro
theorem hk425 : True := by
  k_with "mine subscriptTail" => ((k_here; (with_reducible show wpAny _ _ (subscriptTail _ _ (Value.str _ _) (Value.int _ _)) _ _ _); (refine sub_at (by assumption) ?_); intro t'_q k'_q))
  exact True.intro
theorem hk426 : True := by
  k_with "mine subscriptTail" => ((k_here; (with_reducible show wpAny _ _ (subscriptTail _ (PySem.Expr.Slice (some _) (some _) none _) (Value.str _ _) (Value.ref _)) _ _ _); (with_reducible rename Fr _ _ _ _ => F'_q); (with_reducible rename News _ _ _ _ => N'_q); (refine slice_strN_ss (hsz := ?hsz) (s := ⟨_, _, _, _, _⟩) F'_q N'_q ?_); (case hsz => (simp only [PySem.sizeLine_eq]; omega)); intro _ _ _ _ _))
  exact True.intro
theorem hk427 : True := by
  k_with "mine WhlIf" => (first | (refine WhlIf.yes (decide_eq_true (by assumption)) ?_) | (refine WhlIf.no (decide_eq_false (by assumption)) ?_))
  exact True.intro

abbrev tup2 (kind text : Str) (t1 t2 : Tok) (n : Nat) : Obj := { cls := .type "tuple", data := .seq #[.str kind t1, .str text t2] n }
theorem row_c (w : World) (y : Wk) (kind text : Str) (place : Int) (rest : List (Addr × Obj)) :
    Con w 1 8 146 [.ref y.a] ((y.a, instObj 149 y.d) :: (y.d, wdD y kind text place) :: rest)
      (fun R => ∀ a t1 t2 n, R (.ref a) ((a, tup2 kind text t1 t2 n) :: (y.a, instObj 149 y.d) :: (y.d, wdD y kind text place) :: rest)) (fun _ => True) := by
  (unfold Con; intro mean mg mb dp un gd cn cs a ccd cl outer A₀ base h₀ L m s Q E B F X N T hk hd hu hret hex)
  (refine wpAny_call ?_; k_dflt (refine' code_def ?k1 ?k2 ?k3 ?k4 ?k5 ?kA ?kF ?kK ?k6 ?k7 ?k8 ?k9 ?kB ?_ ?c2 ?c3 ?c4 ?c5; (case kA => exact rfl); (case kF => exact rfl); (case kK => assumption); (case k1 => k_asm); (case k2 => k_asm); (case k3 => k_asm); (case k4 => first | k_asm | exact drop1 (by k_asm) | exact drop2 (by k_asm)); (case k5 => k_asm); (case k6 => k_is); (case k7 => k_is); (case k8 => ktr_room); (case k9 => first | exact BindsTo.of_eq rfl | exact binds_K (by k_in) rfl (by k_is) rfl rfl rfl); (case c5 => decide); (case kB => exact locs rfl); (case c2 => exact rfl); (case c3 => exact rfl); (case c4 => exact rfl); k_whole; intro g' L' h' FG' F' N' B' X' T'; (try dsimp only); (try k_lift B'); (try k_fold)))
  k_steps
  exact hret _ _ _ _ _ _ (by k_asm) (by k_asm)
section
variable {prog : Program} {w : World} {A : Around} {s : Shared} {h₀ : Heap} {L : Addr} {m : Str → Option Value} {env : Env}
theorem comp_turns {elt : Expr} {x : Str} {scope : Scope} {cl : List (Str × Addr)} {S : List (Addr × Obj) → Prop} {P : Nat → Value → Prop} {Fin : List Value → List (Addr × Obj) → Prop}
    (J : Nat → Nat → List Value → List (Addr × Obj) → Prop) (h0 : ∀ i ys news, J 0 i ys news → Fin ys news)
    (hs : ∀ k i ys news, J (k + 1) i ys news → ∀ v I oI C oC D m₂ h tk (E' : Value → Shared → Prop), P i v → LCg.NsObj oC m₂ → m₂ x = some v → Fr h₀ L h m → News h₀ L h ((I, oI) :: (C, oC) :: (D, LCg.lst ys) :: news) → LCg.Off3 I C D news → ((@Ne Nat I C) ∧ (@Ne Nat I D) ∧ (@Ne Nat C D)) →
      wpAny (model prog w) A (eval elt (compEnvC scope cl C env)) (LCg.CompEnd h₀ L m { s with heap := h, toks := tk } I oI C oC D (LCg.lst ys) S (fun y news' => J k (i + 1) (ys ++ [y]) news')) E' { s with heap := h, toks := tk }) :
    ∀ k i ys news, J k i ys news → LCg.CompRest prog w A h₀ L m env elt x scope cl s S P Fin k i ys news
  | 0, i, ys, news, j => h0 i ys news j
  | k + 1, i, ys, news, j => fun v I oI C oC D m₂ h tk E' p1 p2 p3 p4 p5 p6 p7 =>
    wpAny_mono (hs k i ys news j v I oI C oC D m₂ h tk E' p1 p2 p3 p4 p5 p6 p7) (fun y s₂ ⟨h', tk', news', e, F, N, o, hS, r⟩ => ⟨h', tk', news', e, F, N, o, hS, comp_turns J h0 hs k (i + 1) (ys ++ [y]) news' r⟩) fun _ _ e => e
end
theorem add_row {prog : Program} {w : World} {A : Around} {s : Shared} {h₀ : Heap} {L : Addr} {m : Str → Option Value} {E Q : Value → Shared → Prop} {a b : Addr} {rest : List (Addr × Obj)} {v1 v2 v3 : Value} {n n' : Nat}
    (F : Fr h₀ L s.heap m) (N : News h₀ L s.heap ((b, { cls := .type "tuple", data := .seq #[v3] n' }) :: (a, { cls := .type "tuple", data := .seq #[v1, v2] n }) :: rest))
    (h : ∀ D h', Fr h₀ L h' m → News h₀ L h' ((D, { cls := .type "tuple", data := .seq #[v1, v2, v3] }) :: (b, { cls := .type "tuple", data := .seq #[v3] n' }) :: (a, { cls := .type "tuple", data := .seq #[v1, v2] n }) :: rest) → (∀ p ∈ rest, p.1 < D) → Q (.ref D) { s with heap := h' }) :
    wpAny (model prog w) A (binaryOp .Add (.ref a) (.ref b)) Q E s :=
  kde_addT F N (News.isTup N (.tail _ (.head _))) (News.isTup N (.head _)) (List.cons_ne_nil _ _) (List.cons_ne_nil _ _) (Nat.le_of_ble_eq_true rfl) rfl fun D h' F' N' l => h D h' F' N' fun p hp => l p (.tail _ (.tail _ hp))
theorem usOf_eq : ∀ l : List Ent, (usOf l).toList = l.reverse.map fun e => Value.ref e.1.a
  | [] => rfl
  | e :: l => by rw [usOf, Array.toList_push, usOf_eq l]; simp
theorem usOf_at {l pre post : List Ent} {e : Ent} (h : l.reverse = pre ++ e :: post) {v : Value} (hv : (usOf l)[pre.length]? = some v) : v = .ref e.1.a := by
  rw [← Array.getElem?_toList, usOf_eq, h] at hv
  simp at hv
  exact hv.symm
theorem wl_mem {l : List Ent} {e : Ent} (h : e ∈ l) : (e.1.a, instObj 149 e.1.d) ∈ wl l ∧ (e.1.d, wdD e.1 e.2.1 e.2.2.1 e.2.2.2) ∈ wl l := by
  induction l with
  | nil => exact nomatch h
  | cons x l ih =>
    rcases List.mem_cons.mp h with rfl | h
    · exact ⟨.head _, .tail _ (.head _)⟩
    · exact ⟨.tail _ (.tail _ (ih h).1), .tail _ (.tail _ (ih h).2)⟩

-- B13
theorem hk466 : True := by
  k_with_none
  exact True.intro
theorem hk429 : True := by
  k_with "mine call ref" => ((k_here; (k_dflt (show wpAny _ _ (call (Value.ref 52) _) _ _ _)); k_dflt (refine' useU (C := is_space_c _ _ _ _ _ (by first | assumption | exact rfl)) (hp := ?_)); intro h'_q tk'_q F'_q N'_q))
  exact True.intro
theorem hk430 : True := by
  k_with "mine call ref" => ((k_here; (k_dflt (show wpAny _ _ (call (Value.ref 66) _) _ _ _)); k_dflt (refine' useU (C := is_name_start_c _ _ _ _ _ (by first | assumption | exact Sf.head (by assumption)) (by first | assumption | exact rfl)) (hp := ?_)); intro h'_q tk'_q F'_q N'_q))
  exact True.intro
theorem hk431 : True := by
  k_with "mine call ref" => ((k_here; (k_dflt (show wpAny _ _ (call (Value.ref 73) _) _ _ _)); k_dflt (refine' useU (C := is_name_char_c _ _ _ _ _ (by first | assumption | exact Sf.head (by assumption)) (by first | assumption | exact rfl)) (hp := ?_)); intro h'_q tk'_q F'_q N'_q))
  exact True.intro
theorem hk432 : True := by
  k_with "mine k_all" => (assumption)
  exact True.intro
theorem hk433 : True := by
  k_with "mine k_room" => (ktr_room)
  exact True.intro
theorem hk434 : True := by
  k_with "mine k_units" => (ktr_units)
  exact True.intro

theorem hk435 : True := by
  k_with "mine call ref" => ((k_here; (k_dflt (show wpAny _ _ (call (Value.ref 175) _) _ _ _)); k_dflt (refine' useU (C := sign0_c _ _ _ _ _ _ _ _ (by assumption)) (hp := ?_)); intro t'_q h'_q tk'_q F'_q N'_q))
  exact True.intro
theorem hk436 : True := by
  k_with "mine call ref" => ((k_here; (k_dflt (show wpAny _ _ (call (Value.ref 175) _) _ _ _)); k_dflt (refine' useU (C := sign1_c _ _ _ _ _ _ _ _ _ (by assumption)) (hp := ?_)); intro t'_q h'_q tk'_q F'_q N'_q))
  exact True.intro
theorem hk437 : True := by
  k_with "mine call ref" => ((k_here; (k_dflt (show wpAny _ _ (call (Value.ref 196) _) _ _ _)); k_dflt (refine' useU (C := skip_c _ _ _ _ _ _ _ _ (by assumption) (by first | assumption | k_ne) (by first | assumption | k_all)) (hp := ?_)); intro t'_q h'_q tk'_q F'_q N'_q))
  exact True.intro
theorem hk438 : True := by
  k_with "mine call ref" => ((k_here; (k_dflt (show wpAny _ _ (call (Value.ref 224) _) _ _ _)); k_dflt (refine' useU (C := figures_c _ _ _ _ _ _ _ _ (by assumption) (by first | assumption | k_ne) (by first | assumption | k_all)) (hp := ?_)); intro t'_q h'_q tk'_q F'_q N'_q))
  exact True.intro
theorem hk439 : True := by
  k_with "mine exec While" => ((k_here; (refine whl_start 0 (Hold.out ?_))))
  exact True.intro
theorem hk440 : True := by
  k_with "mine exec While Compare" => ((k_here; (refine whl_start 0 (Hold.out ?_))))
  exact True.intro
theorem hk441 : True := by
  k_with "mine exec While Compare cons nil" => ((k_here; (refine whl_start 0 (Hold.out ?_))))
  exact True.intro
theorem hk442 : True := by
  k_with "mine exec While BoolOp" => ((k_here; (refine whl_start 0 (Hold.out ?_))))
  exact True.intro
theorem hk443 : True := by
  k_with "mine subscriptTail" => ((k_here; (with_reducible show wpAny _ _ (subscriptTail _ _ (Value.str _ _) (Value.int _ _)) _ _ _); (refine sub_at (by assumption) ?_); intro t'_q k'_q))
  exact True.intro
theorem hk444 : True := by
  k_with "mine subscriptTail" => ((k_here; (with_reducible show wpAny _ _ (subscriptTail _ (PySem.Expr.Slice (some _) (some _) none _) (Value.str _ _) (Value.ref _)) _ _ _); (with_reducible rename Fr _ _ _ _ => F'_q); (with_reducible rename News _ _ _ _ => N'_q); (refine slice_strN_ss (hsz := ?hsz) (s := ⟨_, _, _, _, _⟩) F'_q N'_q ?_); (case hsz => (simp only [PySem.sizeLine_eq]; omega)); intro _ _ _ _ _))
  exact True.intro
theorem hk445 : True := by
  k_with "mine WhlIf" => (first | (refine WhlIf.yes (decide_eq_true (by assumption)) ?_) | (refine WhlIf.no (decide_eq_false (by assumption)) ?_))
  exact True.intro

theorem hk446 : True := by
  k_with "mine call ref" => ((k_here; (k_dflt (show wpAny _ _ (call (Value.ref 182) _) _ _ _)); k_dflt (refine' useU (C := add_c _ _ _ _ _ _ _ _ _ _ _ _ _ _ _ (by first | assumption | omega) (by first | assumption | omega) (by first | assumption | k_all) (by assumption)) (hp := ?_)); intro y'_q l1_q l2_q l3_q h'_q tk'_q F'_q N'_q))
  exact True.intro
theorem hk447 : True := by
  k_with "mine call ref" => ((k_here; (k_dflt (show wpAny _ _ (call (Value.ref 245) _) _ _ _)); k_dflt (refine' useU (C := plain_name_c _ _ _ _ _ _ _ _ (by assumption) (by first | assumption | k_ne) (by first | assumption | k_all)) (hp := ?_)); intro t1'_q t2'_q h'_q tk'_q F'_q N'_q))
  exact True.intro

theorem hk448 : True := by
  k_with "mine call ref" => ((k_here; (k_dflt (show wpAny _ _ (call (Value.ref 103) _) _ _ _)); k_dflt (refine' useEA (C := fault_c _ _ _ _) (hp := ?_) (he := ?_)); (rotate_left; exact True.intro); intro y'_q l1_q h'_q tk'_q F'_q N'_q))
  exact True.intro
theorem hk449 : True := by
  k_with "mine exec Raise some none" => ((k_here; k_dflt (refine' Raise_fault ?kX ?hh ?hsub ?hty ?_; (case kX => k_asm); (case hh => first | rfl | assumption); (case hsub => k_is); (case hty => k_is))))
  exact True.intro
theorem hk450 : True := by
  k_with "mine RaisF" => ((k_dflt (refine' raisF ?X ?F ?N ?_; (case F => k_asm); (case N => k_asm); (case X => k_asm))))
  exact True.intro
theorem hk451 : True := by
  k_with "mine leaving ref" => ((k_here; k_dflt (first
  | (refine' leave_first ?K ?F ?N ?lt ?_; (case K => k_asm); (case F => k_asm); (case N => k_asm); (case lt => assumption); intro h'_q R'_q)
  | (refine' leave_next ?K ?F ?R ?_; (case K => k_asm); (case F => k_asm); (case R => assumption); intro h'_q R'_q)); (try dsimp only)))
  exact True.intro

theorem hk452 : True := by
  k_with "mine units_room" => (ktr_units)
  exact True.intro
theorem hk453 : True := by
  k_with "mine compareOp In str ref" => ((k_here; k_dflt (refine' in_tup_K ?X ?F ?o ?i ?_; (case F => k_asm); (case X => k_asm); (case o => k_is); (case i => (repeat constructor)))))
  exact True.intro
theorem hk454 : True := by
  k_with "mine compareOp NotIn str ref" => ((k_here; k_dflt (refine' notin_tup_K ?X ?F ?o ?i ?_; (case F => k_asm); (case X => k_asm); (case o => k_is); (case i => (repeat constructor)))))
  exact True.intro
theorem hk455 : True := by
  k_with "mine compareOp Eq ref ref" => ((k_here; k_dflt (refine' eq_lens_K ?N ?a ?b ?z ?u ?_; (case N => k_asm); (case a => k_mem); (case b => k_mem); (case z => simp); (case u => ktr_units))))
  exact True.intro
theorem hk456 : True := by
  k_with "mine subscriptTail" => ((k_here; k_dflt (refine' last_K ?N ?a ?z ?_ ?s ?g; (case N => k_asm); (case a => k_mem); (case z => assumption); (case s => with_unfolding_all rfl); (case g => (intro _; with_unfolding_all rfl)))))
  exact True.intro
theorem hk457 : True := by
  k_with "mine compareOp Eq ref ref" => ((k_here; k_dflt (refine' eq_nil_K ?N ?a ?b ?u ?_; (case N => k_asm); (case a => k_mem); (case b => k_mem); (case u => ktr_units))))
  exact True.intro

theorem hk458 : True := by
  k_with "mine call ref" => ((k_here; (k_dflt (show wpAny _ _ (call (Value.ref 280) _) _ _ _)); k_dflt (refine' useEA (C := path_words_c _ _ _ _ (by assumption) (by assumption) _ (by assumption) _ (by assumption)) (hp := ?_) (he := ?_)); (rotate_left; (intro m' hm' e' h' tk' R' Ns'); rotate_left; intro rows' hr' fl' l' ep' hl' hl2' hl3' hl4' h' tk' F' N')))
  exact True.intro

theorem hk459 : True := by
  k_with "mine eval ListComp" => ((k_here; k_dflt (refine LCg.ListComp_U (F₀ := by k_asm) (by rfl) (by decide) (by rfl) (by decide) (by rfl) ?_)))
  exact True.intro
theorem hk460 : True := by
  k_with "mine CompSrc" => ((k_here; k_dflt (refine' LCg.CompSrc.ledger ?hh ?F ?N ?hm ?z ?_; (case hh => rfl); (case F => k_asm); (case N => k_asm); (case hm => k_mem); (case z => first | assumption | (rw [us_size, PySem.sizeLine_eq]; omega) | size_fits)); intro gq; refine Hold.out ?_))
  exact True.intro
theorem hk461 : True := by
  k_with "mine noteFrame ref" => ((k_here; k_dflt (refine' caught_fault ?K ?F ?Xb ?Tb ?R ?n ?ex ?C ?_; (case K => k_asm); (case R => assumption); (case F => k_asm); (case Xb => assumption); (case Tb => assumption); (case n => assumption); (case ex => k_is); (case C => k_is)); intro g₁ h' tk' oe' vs' dm' h1' k1' tm' tt' B' X' T' c1 c2 c3 F' N'))
  exact True.intro
theorem hk462 : True := by
  k_with "mine getAttr ref" => ((k_here; (with_reducible show wpAny _ _ (getAttr _ (Str.ofString "message") _) _ _ _); k_dflt (refine' msg_K ?F ?X ?N ?c ?di ?d ?C ?ga ?gt ?m ?cd ?hd ?_; (case F => k_asm); (case X => k_asm); (case N => k_asm); (case c => assumption); (case di => assumption); (case d => assumption); (case C => k_is); (case ga => k_is); (case gt => k_is); (case m => k_is); (case cd => k_is); (case hd => rfl))))
  exact True.intro

theorem hk463 : True := by
  k_with "mine call ref" => ((k_here; (k_dflt (show wpAny _ _ (call (Value.ref 146) _) _ _ _)); k_dflt (refine' useU (C := row_c _ _ _ _ _ _) (hp := ?_)); intro a'_q t1'_q t2'_q n'_q h'_q tk'_q F'_q N'_q))
  exact True.intro
structure Tk where
  a : Addr
  n : Nat
  t1 : Tok
  t2 : Tok
  t3 : Tok
abbrev TEnt := Tk × RowT
abbrev tupO (e : TEnt) : Obj := { cls := .type "tuple", data := .seq #[.str e.2.1 e.1.t1, .str e.2.2.1 e.1.t2, .int e.2.2.2 e.1.t3] e.1.n }
def tlg (l : List TEnt) : List (Addr × Obj) := l.map fun e => (e.1.a, tupO e)
def trf (l : List TEnt) : List Value := l.map fun e => .ref e.1.a
theorem off3_mem {I C D : Addr} {p : Addr × Obj} {l : List (Addr × Obj)} (h : LCg.Off3 I C D l) (hp : p ∈ l) : (@Ne Nat p.1 I) ∧ (@Ne Nat p.1 C) ∧ (@Ne Nat p.1 D) := h.mem p hp
theorem leaveT_end {mean : ExcName → Option Value} {mg mb : Str → Option Value} {w : World} {A₀ : Around} {base h₀ g g₁ : Heap} {env : Env} {outer : List Env} {L L' : Addr} {m m' : Str → Option Value} {s : Shared} {Q E : Value → Shared → Prop} {v : Value} {all news : List (Addr × Obj)} {h' : Heap} {tk : Nat}
    (B : Below A₀ base outer h₀) (Xb : (KV w.params).In base) (Tb : Top VV (looseW VV []) mean mg mb base) (R : RetT w mean mg mb A₀ base h₀ outer L m s Q v news) (t : KtsTurn (frs (env :: outer)) g g₁) (F : Fr g₁ L' h' m') (N : News g₁ L' h' all) (sub : ∀ p ∈ news, p ∈ all) :
    LeaveT env outer h₀ L m g (fun r s' => match r with | .ok (.ret v) => Q v s' | .ok _ => False | .error e => E e s') v { s with heap := h', toks := tk } :=
  ⟨g₁, L', m', news, t, F, fun p hp => N p (sub p hp), fun h₁ t₁ F N => R h₁ h' tk t₁ (turn_below B t₁) (Xb.keeps (turn_below B t₁).stays) (Tb.keeps (turn_below B t₁).stays) F N⟩
theorem turn_end {h₀ : Heap} {L I C D U : Addr} {m : Str → Option Value} {s : Shared} {oI oC oD o : Obj} {S : List (Addr × Obj) → Prop} {rest : Value → List (Addr × Obj) → Prop} {h' : Heap} {tk : Nat} {q1 q2 q3 q4 : Addr × Obj} {nw : List (Addr × Obj)}
    (F : Fr h₀ L h' m) (N : News h₀ L h' ((U, o) :: q1 :: q2 :: q3 :: q4 :: (I, oI) :: (C, oC) :: (D, oD) :: nw)) (o1 : @Ne Nat U I) (o2 : @Ne Nat U C) (o3 : @Ne Nat U D) (off : LCg.Off3 I C D nw) (hS : S ((U, o) :: nw)) (r : rest (.ref U) ((U, o) :: nw)) :
    LCg.CompEnd h₀ L m s I oI C oC D oD S rest (.ref U) { s with heap := h', toks := tk } :=
  LCg.CompEnd.intro F N ((U, o) :: nw) (fun p hp => by
    simp only [List.mem_cons] at hp ⊢
    rcases hp with h | h | h | h | h
    · exact .inr (.inr (.inr (.inr (.inr (.inl h)))))
    · exact .inr (.inr (.inr (.inr (.inr (.inr (.inl h))))))
    · exact .inr (.inr (.inr (.inr (.inr (.inr (.inr (.inl h)))))))
    · exact .inl h
    · exact .inr (.inr (.inr (.inr (.inr (.inr (.inr (.inr h)))))))) ⟨⟨o1, o2, o3⟩, off⟩ hS r
/-- the turns of the block: `done` is what it made, the latest first -/
def CJ (l : List Ent) (base : List (Addr × Obj)) (k i : Nat) (ys : List Value) (nw : List (Addr × Obj)) : Prop :=
  ∃ pre post done, l.reverse = pre ++ post ∧ k = post.length ∧ i = pre.length ∧ ys = trf done.reverse ∧ nw = tlg done ++ base ∧ done.map (·.2) = (pre.map (·.2)).reverse
theorem CJ.start (l : List Ent) (base : List (Addr × Obj)) : CJ l base (usOf l).size 0 [] base := ⟨[], l.reverse, [], rfl, by rw [us_size, List.length_reverse], rfl, rfl, rfl, rfl⟩
theorem CJ.done {l : List Ent} {base : List (Addr × Obj)} {i : Nat} {ys : List Value} {nw : List (Addr × Obj)} (h : CJ l base 0 i ys nw) : ∃ d : List TEnt, ys = trf d ∧ nw = tlg d.reverse ++ base ∧ d.map (·.2) = rowsOf l ∧ d.length = l.length := by
  obtain ⟨pre, post, done, e1, e2, e3, e4, e5, e6⟩ := h
  have e7 : post = [] := List.eq_nil_of_length_eq_zero e2.symm
  rw [e7, List.append_nil] at e1
  have h6 := congrArg List.length e6
  have h1 := congrArg List.length e1
  simp only [List.length_map, List.length_reverse] at h6 h1
  exact ⟨done.reverse, e4, by rw [List.reverse_reverse]; exact e5, by rw [List.map_reverse, e6, List.reverse_reverse, rowsOf, e1], by rw [List.length_reverse, h6, h1]⟩
theorem CJ.next {l : List Ent} {base : List (Addr × Obj)} {k i : Nat} {ys : List Value} {nw : List (Addr × Obj)} (h : CJ l base (k + 1) i ys nw) : ∃ e : Ent, e ∈ l ∧ (∀ v, (usOf l)[i]? = some v → v = .ref e.1.a) ∧ (∃ d, ys = trf d) ∧ (∃ d : List TEnt, nw = tlg d ++ base) ∧ ∀ (U : Addr) (n : Nat) (t1 t2 t3 : Tok), CJ l base k (i + 1) (ys ++ [.ref U]) ((U, { cls := .type "tuple", data := .seq #[.str e.2.1 t1, .str e.2.2.1 t2, .int e.2.2.2 t3] n }) :: nw) := by
  obtain ⟨pre, post, done, e1, e2, e3, e4, e5, e6⟩ := h
  cases post with
  | nil => exact nomatch e2
  | cons e post =>
    refine ⟨e, ?_, ?_, ⟨_, e4⟩, ⟨_, e5⟩, fun U n t1 t2 t3 => ⟨pre ++ [e], post, (⟨U, n, t1, t2, t3⟩, e.2) :: done, by rw [e1]; simp, by simpa using e2, by rw [e3]; simp, by rw [e4]; simp [trf], by rw [e5]; rfl, by simp [e6]⟩⟩
    · have : e ∈ l.reverse := by rw [e1]; simp
      simpa using this
    · intro v hv
      rw [e3] at hv
      exact usOf_at e1 hv
theorem two_news {g h : Heap} {L : Addr} {a b : Addr × Obj} {q : List (Addr × Obj)} (N : News g L h q) (ha : a ∈ q) (hb : b ∈ q) : News g L h (a :: b :: q) := fun p hp => by
  rcases List.mem_cons.mp hp with rfl | hp
  · exact N _ ha
  · rcases List.mem_cons.mp hp with rfl | hp
    · exact N _ hb
    · exact N _ hp
theorem hk464 : True := by
  k_with "mine binaryOp Add ref ref" => ((k_here; k_dflt (refine' add_row ?F ?N ?_; (case F => k_asm); (case N => k_asm)); intro D'_q h'_q F'_q N'_q l1_q; (try k_lt l1_q)))
  exact True.intro
theorem hk465 : True := by
  k_with "mine CompEnd" => ((refine' turn_end ?F ?N ?o1 ?o2 ?o3 ?off ?S ?r; (case F => k_asm); (case N => k_asm); (case o1 => k_ne); (case o2 => k_ne); (case o3 => k_ne); (case off => assumption); (case S => exact hsrc _); (case r => exact jn _ _ _ _ _)))
  exact True.intro
theorem heard_c (w : World) (tx : Str) (t : Tok) (news : List (Addr × Obj)) (hT : tx.length ≤ 1000) (hlo : ∀ c ∈ tx.cps.toList, c < 128) (cnt : Nat) (hcnt : cnt ≤ 100) (res : Sum Str (List RowT)) (hres : Runs cnt false (0 + (spN tx.cps.toList : Int)) (tx.cps.toList.drop (spN tx.cps.toList)) res) :
    ConT w 10 260 306 [.str tx t] news
      (fun R => (∀ rows, res = .inr rows → ∀ li (l : List TEnt), l.map (·.2) = rows → l.length ≤ 101 → R (.ref li) ((li, LCg.lst (trf l)) :: (tlg l ++ news))) ∧ (∀ m, res = .inl m → ∀ t, R (.str m t) news)) := by
  (unfold ConT; intro mean mg mb dp un gd cn cs a ccd cl outer A₀ base h₀ L m s Q E B F X N T Xb Tb hk hd hu hret)
  (refine wpAny_call ?_; k_dflt (refine' code_defT ?k1 ?k2 ?k3 ?k4 ?k5 ?kA ?kF ?kK ?k6 ?k7 ?k8 ?k9 ?kB ?_ ?c2 ?c3 ?c4 ?c5; (case kA => exact rfl); (case kF => exact rfl); (case kK => assumption); (case k1 => k_asm); (case k2 => k_asm); (case k3 => k_asm); (case k4 => first | k_asm | exact drop1 (by k_asm) | exact drop2 (by k_asm)); (case k5 => k_asm); (case k6 => k_is); (case k7 => k_is); (case k8 => ktr_room); (case k9 => first | exact BindsTo.of_eq rfl | exact binds_K (by k_in) rfl (by k_is) rfl rfl rfl); (case c5 => decide); (case kB => exact locs rfl); (case c2 => exact rfl); (case c3 => exact rfl); (case c4 => exact rfl); k_whole; intro g' L' h' FG' F' N' B' X' T'; (try dsimp only); (try k_lift B'); (try k_fold)))
  k_steps
  · unfold Hold
    refine comp_turns (J := CJ l' ((fl', W.listOf (usOf l') ep') :: (wl l' ++ news))) ?h0 ?hs _ _ _ _ (CJ.start _ _)
    case h0 =>
      intro i ys nw j
      obtain ⟨d, rfl, rfl, e8, e9⟩ := j.done
      intro D h tk F₂ N₂ o1
      k_steps
      refine' leaveT_end B Xb Tb (hret.1 rows' hr' D d (e8.trans hl') (e9 ▸ hl2')) KtsTurn.refl ?F ?N ?sub
      case F => k_asm
      case N => k_asm
      case sub =>
        intro p hp
        simp only [List.mem_cons, List.mem_append] at hp ⊢
        rcases hp with h | h | h
        · exact .inl h
        · exact .inr (.inl (by simpa [tlg] using h))
        · exact .inr (.inr (.inr (.inr h)))
    case hs =>
      intro k i ys nw j v I oI C oC D m₂ h tk E' p1 p2 p3 p4 p5 p6 p7
      obtain ⟨⟨y, kk, tx', pl⟩, hm, hv, -, ⟨dd, hnw⟩, jn⟩ := j.next
      have hv := hv v p1
      subst hv
      have hw := wl_mem hm
      have N₂ := two_news p5 (a := (y.a, instObj 149 y.d)) (b := (y.d, wdD y kk tx' pl)) (.tail _ (.tail _ (.tail _ (hnw ▸ List.mem_append_right _ (.tail _ (List.mem_append_left _ hw.1)))))) (.tail _ (.tail _ (.tail _ (hnw ▸ List.mem_append_right _ (.tail _ (List.mem_append_left _ hw.2))))))
      have hsrc : ∀ q, LCg.SrcAt g' fl' (usOf l') (q :: nw) := fun q => .inr ⟨_, .tail _ (hnw ▸ List.mem_append_right _ (.head _)), rfl, _, rfl⟩
      clear p5 p1 j hnw hw hm hv hret B Xb Tb hres
      clear hl' hl2' hl3' hl4' hr'
      dsimp only at jn
      k_steps
  · exact leaveT_end B Xb Tb (hret.2 _ hm' _) tt' (by k_asm) (by k_asm) (by k_sub)

-- C1
theorem hk469 : True := by
  k_with_none
  exact True.intro
abbrev tup3 (row : RowT) (t1 t2 t3 : Tok) (n : Nat) : Obj := { cls := .type "tuple", data := .seq #[.str row.1 t1, .str row.2.1 t2, .int row.2.2 t3] n }
inductive Wd where
  | star
  | nm (w : Str) (op bad star kind : Bool)
  | var (w : Str) (v : Option Str)
  | fix (kind w text : Str)
  | bad (w : Str)
def namesL : List (Str × Bool × Bool × Bool × Bool) := [(Str.ofString "a", false, false, false, false), (Str.ofString "div", true, false, false, false), (Str.ofString "and", true, false, false, false), (Str.ofString "mod", true, false, false, false), (Str.ofString "or", true, false, false, false), (Str.ofString "text", false, false, false, true), (Str.ofString "node", false, false, false, true), (Str.ofString "self", false, false, false, false), (Str.ofString "p:b", false, false, false, false), (Str.ofString "p:*", false, false, true, false), (Str.ofString "a-b.c", false, false, false, false), (Str.ofString "_x", false, false, false, false), (Str.ofString "p:", false, true, false, false)]
def rowL : Wd → Bool → Int → Str → Sum Str RowT
  | .star, b, n, _ => .inr (if b then Str.ofString "operator" else Str.ofString "name", Str.ofString "*", n)
  | .nm w op bad star kind, b, n, f =>
    if b then (if op then .inr (Str.ofString "operator", w, n) else .inl (Str.ofString "an operator is missing at " ++ Str.ofString (toString n)))
    else if bad then .inl (Str.ofString "a name is missing behind a colon at " ++ Str.ofString (toString (n + 2)))
    else if (f == Str.ofString "(") && !star then .inr (if kind then Str.ofString "kind" else Str.ofString "function", w, n)
    else .inr (if f == Str.ofString "::" then Str.ofString "axis" else Str.ofString "name", w, n)
  | .var _ (some v), _, n, _ => .inr (Str.ofString "variable", v, n)
  | .var _ none, _, n, _ => .inl (Str.ofString "a variable has no name at " ++ Str.ofString (toString n))
  | .fix k _ t, _, n, _ => .inr (k, t, n)
  | .bad _, _, n, _ => .inl (Str.ofString "a strange sign at " ++ Str.ofString (toString n))
abbrev postR (res : Sum Str RowT) (rest : List (Addr × Obj)) (R : Value → List (Addr × Obj) → Prop) : Prop :=
  (∀ m, res = .inl m → ∀ t, R (.str m t) rest) ∧ (∀ row, res = .inr row → ∀ a t1 t2 t3 k, R (.ref a) ((a, tup3 row t1 t2 t3 k) :: rest))
section
variable {res : Sum Str RowT} {rest all : List (Addr × Obj)} {h₀ h' : Heap} {L D : Addr} {m : Str → Option Value} {s : Shared} {Q : Value → Shared → Prop} {k x : Str} {n : Int} {t1 t2 t3 : Tok} {j tk : Nat}
theorem fin_row (hret : postR res rest (Ret h₀ L m s Q)) (F : Fr h₀ L h' m) (N : News h₀ L h' ((D, { cls := .type "tuple", data := .seq #[.str k t1, .str x t2, .int n t3] j }) :: all)) (sub : ∀ p ∈ rest, p ∈ all) (e : res = .inr (k, x, n)) : Q (.ref D) { s with heap := h', toks := tk } :=
  hret.2 _ e D t1 t2 t3 j h' tk F fun p hp => by
    rcases List.mem_cons.mp hp with rfl | hp
    · exact N _ (.head _)
    · exact N p (.tail _ (sub p hp))
theorem fin_txt (hret : postR res rest (Ret h₀ L m s Q)) (F : Fr h₀ L h' m) (N : News h₀ L h' all) (sub : ∀ p ∈ rest, p ∈ all) (e : res = .inl x) : Q (.str x t1) { s with heap := h', toks := tk } :=
  hret.1 _ e t1 h' tk F fun p hp => N p (sub p hp)
end
theorem hk467 : True := by
  k_with "mine subscriptTail" => ((k_here; (with_reducible show wpAny _ _ (subscriptTail _ (Expr.Slice (some _) none none _) (Value.str _ _) (Value.ref _)) _ _ _); (with_reducible rename Fr _ _ _ _ => F'_q); (with_reducible rename News _ _ _ _ => N'_q); (refine slice_strN_sn (hsz := ?hsz) (s := ⟨_, _, _, _, _⟩) F'_q N'_q ?_); (case hsz => (rw [PySem.sizeLine_eq]; omega)); intro _ _ _ _ _))
  exact True.intro
/-- a name that ends in no colon and in no star, where none is behind an operand -/
theorem lname_f (w : World) (W : Str) (op : Bool) (n : Int) (f : Str) (tw tn tf : Tok) (rest : List (Addr × Obj)) (h0 : 0 ≤ n) (h1 : n ≤ 2000) (hl : W.length ≤ 5) (hc : (Txt.slice W (some (-1)) none == Str.ofString ":") = false) (hs : (Txt.slice W (some (-1)) none != Str.ofString "*") = true) :
    Con w 2 60 313 [.str W tw, .bool false, .int n tn, .str f tf] rest (postR (rowL (.nm W op false false ([Str.ofString "comment", Str.ofString "text", Str.ofString "processing-instruction", Str.ofString "node"].any fun x => x == W)) false n f) rest) (fun _ => True) := by
  (unfold Con; intro mean mg mb dp un gd cn cs a ccd cl outer A₀ base h₀ L m s Q E B F X N T hk hd hu hret hex)
  (refine wpAny_call ?_; k_dflt (refine' code_def ?k1 ?k2 ?k3 ?k4 ?k5 ?kA ?kF ?kK ?k6 ?k7 ?k8 ?k9 ?kB ?_ ?c2 ?c3 ?c4 ?c5; (case kA => exact rfl); (case kF => exact rfl); (case kK => assumption); (case k1 => k_asm); (case k2 => k_asm); (case k3 => k_asm); (case k4 => first | k_asm | exact drop1 (by k_asm) | exact drop2 (by k_asm)); (case k5 => k_asm); (case k6 => k_is); (case k7 => k_is); (case k8 => ktr_room); (case k9 => first | exact BindsTo.of_eq rfl | exact binds_K (by k_in) rfl (by k_is) rfl rfl rfl); (case c5 => decide); (case kB => exact locs rfl); (case c2 => exact rfl); (case c3 => exact rfl); (case c4 => exact rfl); k_whole; intro g' L' h' FG' F' N' B' X' T'))
  (revert FG' F' N' B' X' T'; revert B F X N T hk hd hu hret hex; revert mean mg mb dp un gd cn cs a ccd cl outer A₀ base h₀ L m s Q E g' L' h'; revert w W op n f tw tn tf rest; refine ep9_all (by repeat' (first | exact ne_world | exact ne_sc | exact ⟨({} : Shared)⟩ | exact ⟨Wd.star⟩ | refine ne_pair ?_ ?_ | exact inferInstance)) ?_; intro eP eE; refine ((?eg1 : ∀ y0 y1 y2 y3 y4 y5 y6 y7 y8, eP y0 y1 y2 y3 y4 y5 y6 y7 y8) _ _ _ _ _ _ _ _ _); intro w W op n f tw tn tf rest; subst eE; set_option tactic.hygienic false in intro; set_option tactic.hygienic false in intros; revert FG' F' N' B' X' T'; revert B F X N T hk hd hu hret hex; revert mean mg mb dp un gd cn cs a ccd cl outer A₀ base h₀ L m s Q E g' L' h'; refine amb_all ?_; intro eP eE; refine ((?eg2 : ∀ y0 y1 y2 y3 y4 y5 y6 y7 y8 y9 y10 y11 y12 y13 y14 y15 y16 y17 y18 y19 y20 y21 y22, eP y0 y1 y2 y3 y4 y5 y6 y7 y8 y9 y10 y11 y12 y13 y14 y15 y16 y17 y18 y19 y20 y21 y22) _ _ _ _ _ _ _ _ _ _ _ _ _ _ _ _ _ _ _ _ _ _ _); intro mean mg mb dp un gd cn cs a ccd cl outer A₀ base h₀ L m s Q E g' L' h'; subst eE; set_option tactic.hygienic false in intro; set_option tactic.hygienic false in intros; skip)
  ((try dsimp only); (try k_lift B'))
  k_steps
  all_goals (refine' fin_row hret ?F ?N ?s ?e; (case F => k_asm); (case N => k_asm); (case s => (intro p hp; (try simp only [List.mem_cons]); first | exact hp | exact .inr hp | exact .inr (.inr hp) | exact .inr (.inr (.inr hp)) | exact .inr (.inr (.inr (.inr hp))))); (case e => first | exact rfl | simp only [rowL, *, if_true, if_false, Bool.false_eq_true, Bool.and_true, Bool.true_and, Bool.and_false, Bool.false_and, Bool.not_true, Bool.not_false, Bool.or_false, Bool.false_or, Bool.or_true, Bool.true_or]))
theorem lname_to {w : World} {W : Str} {op kind : Bool} {n : Int} {f : Str} {tw tn tf : Tok} {rest : List (Addr × Obj)} (h : Con w 2 60 313 [.str W tw, .bool false, .int n tn, .str f tf] rest (postR (rowL (.nm W op false false ([Str.ofString "comment", Str.ofString "text", Str.ofString "processing-instruction", Str.ofString "node"].any fun x => x == W)) false n f) rest) (fun _ => True)) (e : ([Str.ofString "comment", Str.ofString "text", Str.ofString "processing-instruction", Str.ofString "node"].any fun x => x == W) = kind) :
    Con w 2 60 313 [.str W tw, .bool false, .int n tn, .str f tf] rest (postR (rowL (.nm W op false false kind) false n f) rest) (fun _ => True) := by
  rw [e] at h; exact h
theorem hk468 : True := by
  k_with "mine call builtin:str.split" => ((k_here; (with_reducible show wpAny _ _ (call (Value.builtin "str.split") [Value.str _ _, Value.str _ _]) _ _ _); (refine KSpl.split1 (by k_asm) (by k_asm) (by decide) ?_ (by (rw [PySem.sizeLine_eq]; omega))); (intro D' l' h' k' e' a' F' N' l1); (try k_lt l1); rw [hsp] at e'; kspl_open e'; (simp only [strValues, List.map_cons, List.map_nil] at N' a')))
  exact True.intro
/-- a name behind an operand, by what stands ahead of its first colon -/
theorem lname_b (w : World) (W W0 : Str) (r0 : List Str) (n : Int) (f : Str) (tw tn tf : Tok) (rest : List (Addr × Obj)) (h0 : 0 ≤ n) (h1 : n ≤ 2000) (hl : W.length ≤ 5) (hsp : Txt.split W (Str.ofString ":") = W0 :: r0) (hr0 : r0 = [] ∨ ∃ q, r0 = [q]) :
    Con w 2 60 313 [.str W tw, .bool true, .int n tn, .str f tf] rest (postR (if ([Str.ofString "and", Str.ofString "or", Str.ofString "mod", Str.ofString "div"].any fun x => x == W0) then .inr (Str.ofString "operator", W0, n) else .inl (Str.ofString "an operator is missing at " ++ Str.ofString (toString n))) rest) (fun _ => True) := by
  (unfold Con; intro mean mg mb dp un gd cn cs a ccd cl outer A₀ base h₀ L m s Q E B F X N T hk hd hu hret hex)
  (refine wpAny_call ?_; k_dflt (refine' code_def ?k1 ?k2 ?k3 ?k4 ?k5 ?kA ?kF ?kK ?k6 ?k7 ?k8 ?k9 ?kB ?_ ?c2 ?c3 ?c4 ?c5; (case kA => exact rfl); (case kF => exact rfl); (case kK => assumption); (case k1 => k_asm); (case k2 => k_asm); (case k3 => k_asm); (case k4 => first | k_asm | exact drop1 (by k_asm) | exact drop2 (by k_asm)); (case k5 => k_asm); (case k6 => k_is); (case k7 => k_is); (case k8 => ktr_room); (case k9 => first | exact BindsTo.of_eq rfl | exact binds_K (by k_in) rfl (by k_is) rfl rfl rfl); (case c5 => decide); (case kB => exact locs rfl); (case c2 => exact rfl); (case c3 => exact rfl); (case c4 => exact rfl); k_whole; intro g' L' h' FG' F' N' B' X' T'))
  (revert FG' F' N' B' X' T'; revert B F X N T hk hd hu hret hex; revert mean mg mb dp un gd cn cs a ccd cl outer A₀ base h₀ L m s Q E g' L' h'; revert w W W0 r0 n f tw tn tf rest; refine ep10_all (by repeat' (first | exact ne_world | exact ne_sc | exact ⟨({} : Shared)⟩ | exact ⟨Wd.star⟩ | refine ne_pair ?_ ?_ | exact inferInstance)) ?_; intro eP eE; refine ((?eg3 : ∀ y0 y1 y2 y3 y4 y5 y6 y7 y8 y9, eP y0 y1 y2 y3 y4 y5 y6 y7 y8 y9) _ _ _ _ _ _ _ _ _ _); intro w W W0 r0 n f tw tn tf rest; subst eE; set_option tactic.hygienic false in intro; set_option tactic.hygienic false in intros; revert FG' F' N' B' X' T'; revert B F X N T hk hd hu hret hex; revert mean mg mb dp un gd cn cs a ccd cl outer A₀ base h₀ L m s Q E g' L' h'; refine amb_all ?_; intro eP eE; refine ((?eg4 : ∀ y0 y1 y2 y3 y4 y5 y6 y7 y8 y9 y10 y11 y12 y13 y14 y15 y16 y17 y18 y19 y20 y21 y22, eP y0 y1 y2 y3 y4 y5 y6 y7 y8 y9 y10 y11 y12 y13 y14 y15 y16 y17 y18 y19 y20 y21 y22) _ _ _ _ _ _ _ _ _ _ _ _ _ _ _ _ _ _ _ _ _ _ _); intro mean mg mb dp un gd cn cs a ccd cl outer A₀ base h₀ L m s Q E g' L' h'; subst eE; set_option tactic.hygienic false in intro; set_option tactic.hygienic false in intros; skip)
  ((try dsimp only); (try k_lift B'))
  rcases hr0 with rfl | ⟨q, rfl⟩
  all_goals (
    k_steps
    all_goals first | (refine' fin_row hret ?F ?N ?s ?e; (case F => k_asm); (case N => k_asm); (case s => (intro p hp; (try simp only [List.mem_cons]); first | exact hp | exact .inr hp | exact .inr (.inr hp) | exact .inr (.inr (.inr hp)) | exact .inr (.inr (.inr (.inr hp))))); (case e => first | exact rfl | simp only [*, if_true, if_false, Bool.false_eq_true, Bool.and_true, Bool.true_and, Bool.and_false, Bool.false_and, Bool.not_true, Bool.not_false, Bool.or_false, Bool.false_or, Bool.or_true, Bool.true_or])) | (refine' fin_txt hret ?F ?N ?s ?e; (case F => k_asm); (case N => k_asm); (case s => (intro p hp; (try simp only [List.mem_cons]); first | exact hp | exact .inr hp | exact .inr (.inr hp) | exact .inr (.inr (.inr hp)) | exact .inr (.inr (.inr (.inr hp))))); (case e => first | exact rfl | simp only [*, if_true, if_false, Bool.false_eq_true, Bool.and_true, Bool.true_and, Bool.and_false, Bool.false_and, Bool.not_true, Bool.not_false, Bool.or_false, Bool.false_or, Bool.or_true, Bool.true_or])))
theorem lname_bt {w : World} {W W0 : Str} {op bad star kind : Bool} {n : Int} {f : Str} {tw tn tf : Tok} {rest : List (Addr × Obj)} (h : Con w 2 60 313 [.str W tw, .bool true, .int n tn, .str f tf] rest (postR (if ([Str.ofString "and", Str.ofString "or", Str.ofString "mod", Str.ofString "div"].any fun x => x == W0) then .inr (Str.ofString "operator", W0, n) else .inl (Str.ofString "an operator is missing at " ++ Str.ofString (toString n))) rest) (fun _ => True))
    (e : ([Str.ofString "and", Str.ofString "or", Str.ofString "mod", Str.ofString "div"].any fun x => x == W0) = op) (e2 : (op && W0 != W) = false) :
    Con w 2 60 313 [.str W tw, .bool true, .int n tn, .str f tf] rest (postR (rowL (.nm W op bad star kind) true n f) rest) (fun _ => True) := by
  rw [e] at h
  cases op with
  | false => exact h
  | true =>
    have : W0 = W := by simpa using e2
    rw [this] at h
    exact h
theorem lname_bs {w : World} {W : Str} {op bad star kind : Bool} {n : Int} {f : Str} {tw tn tf : Tok} {rest : List (Addr × Obj)} (h : Con w 2 60 313 [.str W tw, .bool true, .int n tn, .str f tf] rest (postR (if ([Str.ofString "and", Str.ofString "or", Str.ofString "mod", Str.ofString "div"].any fun x => x == W) then .inr (Str.ofString "operator", W, n) else .inl (Str.ofString "an operator is missing at " ++ Str.ofString (toString n))) rest) (fun _ => True))
    (e : ([Str.ofString "and", Str.ofString "or", Str.ofString "mod", Str.ofString "div"].any fun x => x == W) = op) :
    Con w 2 60 313 [.str W tw, .bool true, .int n tn, .str f tf] rest (postR (rowL (.nm W op bad star kind) true n f) rest) (fun _ => True) := lname_bt h e (by simp)
/-- the two that end in a colon or in a star, where none is behind an operand -/
theorem lname_x (w : World) (W : Str) (bad star : Bool) (n : Int) (f : Str) (tw tn tf : Tok) (rest : List (Addr × Obj)) (hx : (W = Str.ofString "p:*" ∧ bad = false ∧ star = true) ∨ (W = Str.ofString "p:" ∧ bad = true ∧ star = false)) (h0 : 0 ≤ n) (h1 : n ≤ 2000) :
    Con w 2 60 313 [.str W tw, .bool false, .int n tn, .str f tf] rest (postR (rowL (.nm W false bad star false) false n f) rest) (fun _ => True) := by
  (unfold Con; intro mean mg mb dp un gd cn cs a ccd cl outer A₀ base h₀ L m s Q E B F X N T hk hd hu hret hex)
  (refine wpAny_call ?_; k_dflt (refine' code_def ?k1 ?k2 ?k3 ?k4 ?k5 ?kA ?kF ?kK ?k6 ?k7 ?k8 ?k9 ?kB ?_ ?c2 ?c3 ?c4 ?c5; (case kA => exact rfl); (case kF => exact rfl); (case kK => assumption); (case k1 => k_asm); (case k2 => k_asm); (case k3 => k_asm); (case k4 => first | k_asm | exact drop1 (by k_asm) | exact drop2 (by k_asm)); (case k5 => k_asm); (case k6 => k_is); (case k7 => k_is); (case k8 => ktr_room); (case k9 => first | exact BindsTo.of_eq rfl | exact binds_K (by k_in) rfl (by k_is) rfl rfl rfl); (case c5 => decide); (case kB => exact locs rfl); (case c2 => exact rfl); (case c3 => exact rfl); (case c4 => exact rfl); k_whole; intro g' L' h' FG' F' N' B' X' T'))
  (revert FG' F' N' B' X' T'; revert B F X N T hk hd hu hret hex; revert mean mg mb dp un gd cn cs a ccd cl outer A₀ base h₀ L m s Q E g' L' h'; revert hx h0 h1; revert w W bad star n f tw tn tf rest; refine ep10_all (by repeat' (first | exact ne_world | exact ne_sc | exact ⟨({} : Shared)⟩ | exact ⟨Wd.star⟩ | refine ne_pair ?_ ?_ | exact inferInstance)) ?_; intro eP eE; refine ((?eg5 : ∀ y0 y1 y2 y3 y4 y5 y6 y7 y8 y9, eP y0 y1 y2 y3 y4 y5 y6 y7 y8 y9) _ _ _ _ _ _ _ _ _ _); intro w W bad star n f tw tn tf rest; subst eE; set_option tactic.hygienic false in intro; set_option tactic.hygienic false in intros; revert FG' F' N' B' X' T'; revert B F X N T hk hd hu hret hex; revert mean mg mb dp un gd cn cs a ccd cl outer A₀ base h₀ L m s Q E g' L' h'; refine amb_all ?_; intro eP eE; refine ((?eg6 : ∀ y0 y1 y2 y3 y4 y5 y6 y7 y8 y9 y10 y11 y12 y13 y14 y15 y16 y17 y18 y19 y20 y21 y22, eP y0 y1 y2 y3 y4 y5 y6 y7 y8 y9 y10 y11 y12 y13 y14 y15 y16 y17 y18 y19 y20 y21 y22) _ _ _ _ _ _ _ _ _ _ _ _ _ _ _ _ _ _ _ _ _ _ _); intro mean mg mb dp un gd cn cs a ccd cl outer A₀ base h₀ L m s Q E g' L' h'; subst eE; set_option tactic.hygienic false in intro; set_option tactic.hygienic false in intros; skip)
  ((try dsimp only); (try k_lift B'))
  rcases hx with ⟨rfl, rfl, rfl⟩ | ⟨rfl, rfl, rfl⟩
  all_goals ((
    k_steps
    all_goals first | (refine' fin_row hret ?F ?N ?s ?e; (case F => k_asm); (case N => k_asm); (case s => (intro p hp; (try simp only [List.mem_cons]); first | exact hp | exact .inr hp | exact .inr (.inr hp) | exact .inr (.inr (.inr hp)) | exact .inr (.inr (.inr (.inr hp))))); (case e => simp only [rowL, *, if_true, if_false, Bool.false_eq_true, Bool.and_true, Bool.true_and, Bool.and_false, Bool.false_and, Bool.not_true, Bool.not_false, Bool.or_false, Bool.false_or, Bool.or_true, Bool.true_or])) | (refine' fin_txt hret ?F ?N ?s ?e; (case F => k_asm); (case N => k_asm); (case s => (intro p hp; (try simp only [List.mem_cons]); first | exact hp | exact .inr hp | exact .inr (.inr hp) | exact .inr (.inr (.inr hp)) | exact .inr (.inr (.inr (.inr hp))))); (case e => first | exact rfl | simp only [rowL, *, if_true, if_false, Bool.false_eq_true, Bool.and_true, Bool.true_and, Bool.and_false, Bool.false_and, Bool.not_true, Bool.not_false, Bool.or_false, Bool.false_or, Bool.or_true, Bool.true_or]))))
theorem lname_c (w : World) (W : Str) (op bad star kind : Bool) (b : Bool) (n : Int) (f : Str) (tw tn tf : Tok) (rest : List (Addr × Obj)) (hmem : (W, op, bad, star, kind) ∈ namesL) (h0 : 0 ≤ n) (h1 : n ≤ 2000) :
    Con w 2 60 313 [.str W tw, .bool b, .int n tn, .str f tf] rest (postR (rowL (.nm W op bad star kind) b n f) rest) (fun _ => True) := by
  simp only [namesL, List.mem_cons, Prod.mk.injEq, List.not_mem_nil, or_false] at hmem
  rcases hmem with ⟨rfl, rfl, rfl, rfl, rfl⟩ | ⟨rfl, rfl, rfl, rfl, rfl⟩ | ⟨rfl, rfl, rfl, rfl, rfl⟩ | ⟨rfl, rfl, rfl, rfl, rfl⟩ | ⟨rfl, rfl, rfl, rfl, rfl⟩ | ⟨rfl, rfl, rfl, rfl, rfl⟩ | ⟨rfl, rfl, rfl, rfl, rfl⟩ | ⟨rfl, rfl, rfl, rfl, rfl⟩ | ⟨rfl, rfl, rfl, rfl, rfl⟩ | ⟨rfl, rfl, rfl, rfl, rfl⟩ | ⟨rfl, rfl, rfl, rfl, rfl⟩ | ⟨rfl, rfl, rfl, rfl, rfl⟩ | ⟨rfl, rfl, rfl, rfl, rfl⟩
  all_goals (cases b)
  all_goals first
    | exact lname_to (lname_f w _ _ n f tw tn tf rest h0 h1 (by decide +kernel) (by decide +kernel) (by decide +kernel)) (by decide +kernel)
    | exact lname_bt (lname_b w _ (Str.ofString "p") [Str.ofString "b"] n f tw tn tf rest h0 h1 (by decide +kernel) (by decide +kernel) (.inr ⟨_, rfl⟩)) (by decide +kernel) (by decide +kernel)
    | exact lname_bt (lname_b w _ (Str.ofString "p") [Str.ofString "*"] n f tw tn tf rest h0 h1 (by decide +kernel) (by decide +kernel) (.inr ⟨_, rfl⟩)) (by decide +kernel) (by decide +kernel)
    | exact lname_bt (lname_b w _ (Str.ofString "p") [Str.ofString ""] n f tw tn tf rest h0 h1 (by decide +kernel) (by decide +kernel) (.inr ⟨_, rfl⟩)) (by decide +kernel) (by decide +kernel)
    | exact lname_bs (lname_b w _ _ [] n f tw tn tf rest h0 h1 (by decide +kernel) (by decide +kernel) (.inl rfl)) (by decide +kernel)
    | exact lname_x w _ _ _ n f tw tn tf rest (.inl ⟨rfl, rfl, rfl⟩) h0 h1
    | exact lname_x w _ _ _ n f tw tn tf rest (.inr ⟨rfl, rfl, rfl⟩) h0 h1

-- C2
theorem hk472 : True := by
  k_with_none
  exact True.intro
theorem hk470 : True := by
  k_with "mine call ref" => ((k_here; (k_dflt (show wpAny _ _ (call (Value.ref 313) _) _ _ _)); k_dflt (refine' useU (C := lname_c _ _ _ _ _ _ _ _ _ _ _ _ _ hmem h0 h1) (hp := ?_)); (refine' ⟨?_, ?_⟩; (intro m' hm' t' h' tk' F' N'); rotate_left; (intro row' hr' a' t1' t2' t3' k' h' tk' F' N'))))
  exact True.intro
section
variable {prog : Program} {w : World} {A : Around} {s : Shared} {Q E : Value → Shared → Prop} {x y : Str} {t u : Tok}
theorem in_str_no (e : (Builtin.Str.occurrences y x 0 y.length 1).isEmpty = true) (h : Q (.bool false) s) : wpAny (model prog w) A (compareOp .In (.str x t) (.str y u)) Q E s := in_str (by rw [e]; exact h)
theorem in_str_yes (e : (Builtin.Str.occurrences y x 0 y.length 1).isEmpty = false) (h : Q (.bool true) s) : wpAny (model prog w) A (compareOp .In (.str x t) (.str y u)) Q E s := in_str (by rw [e]; exact h)
end
theorem hk471 : True := by
  k_with "mine compareOp In str str" => ((k_here; with_reducible (first | (refine' in_str_no ?e ?_; (case e => assumption)) | (refine' in_str_yes ?e ?_; (case e => assumption)))))
  exact True.intro
abbrev inA (W : Str) : Bool := (Builtin.Str.occurrences (Str.ofString "abcdefghijklmnopqrstuvwxyz_") (Txt.item W 0) 0 (Str.ofString "abcdefghijklmnopqrstuvwxyz_").length 1).isEmpty
abbrev inQ (W : Str) : Bool := (Builtin.Str.occurrences (Str.ofString "'\"") (Txt.item W 0) 0 (Str.ofString "'\"").length 1).isEmpty
theorem row_nm (w : World) (W : Str) (op bad star kind : Bool) (b : Bool) (n : Int) (f : Str) (tw tn tf : Tok) (rest : List (Addr × Obj)) (hmem : (W, op, bad, star, kind) ∈ namesL) (h0 : 0 ≤ n) (h1 : n ≤ 2000) :
    Con w 3 90 320 [.str W tw, .bool b, .int n tn, .str f tf] rest (postR (rowL (.nm W op bad star kind) b n f) rest) (fun _ => True) := by
  (unfold Con; intro mean mg mb dp un gd cn cs a ccd cl outer A₀ base h₀ L m s Q E B F X N T hk hd hu hret hex)
  (refine wpAny_call ?_; k_dflt (refine' code_def ?k1 ?k2 ?k3 ?k4 ?k5 ?kA ?kF ?kK ?k6 ?k7 ?k8 ?k9 ?kB ?_ ?c2 ?c3 ?c4 ?c5; (case kA => exact rfl); (case kF => exact rfl); (case kK => assumption); (case k1 => k_asm); (case k2 => k_asm); (case k3 => k_asm); (case k4 => first | k_asm | exact drop1 (by k_asm) | exact drop2 (by k_asm)); (case k5 => k_asm); (case k6 => k_is); (case k7 => k_is); (case k8 => ktr_room); (case k9 => first | exact BindsTo.of_eq rfl | exact binds_K (by k_in) rfl (by k_is) rfl rfl rfl); (case c5 => decide); (case kB => exact locs rfl); (case c2 => exact rfl); (case c3 => exact rfl); (case c4 => exact rfl); k_whole; intro g' L' h' FG' F' N' B' X' T'))
  (revert FG' F' N' B' X' T'; revert B F X N T hk hd hu hret hex; revert mean mg mb dp un gd cn cs a ccd cl outer A₀ base h₀ L m s Q E g' L' h'; revert hmem h0 h1; revert w W op bad star kind b n f tw tn tf rest; refine ep13_all (by repeat' (first | exact ne_world | exact ne_sc | exact ⟨({} : Shared)⟩ | exact ⟨Wd.star⟩ | refine ne_pair ?_ ?_ | exact inferInstance)) ?_; intro eP eE; refine ((?eg1 : ∀ y0 y1 y2 y3 y4 y5 y6 y7 y8 y9 y10 y11 y12, eP y0 y1 y2 y3 y4 y5 y6 y7 y8 y9 y10 y11 y12) _ _ _ _ _ _ _ _ _ _ _ _ _); intro w W op bad star kind b n f tw tn tf rest; subst eE; set_option tactic.hygienic false in intro; set_option tactic.hygienic false in intros; revert FG' F' N' B' X' T'; revert B F X N T hk hd hu hret hex; revert mean mg mb dp un gd cn cs a ccd cl outer A₀ base h₀ L m s Q E g' L' h'; refine amb_all ?_; intro eP eE; refine ((?eg2 : ∀ y0 y1 y2 y3 y4 y5 y6 y7 y8 y9 y10 y11 y12 y13 y14 y15 y16 y17 y18 y19 y20 y21 y22, eP y0 y1 y2 y3 y4 y5 y6 y7 y8 y9 y10 y11 y12 y13 y14 y15 y16 y17 y18 y19 y20 y21 y22) _ _ _ _ _ _ _ _ _ _ _ _ _ _ _ _ _ _ _ _ _ _ _); intro mean mg mb dp un gd cn cs a ccd cl outer A₀ base h₀ L m s Q E g' L' h'; subst eE; set_option tactic.hygienic false in intro; set_option tactic.hygienic false in intros; skip)
  ((try dsimp only); (try k_lift B'))
  have hA : inA W = false := (show ∀ e ∈ namesL, inA e.1 = false by decide +kernel) (W, op, bad, star, kind) hmem
  have hs : (W == Str.ofString "*") = false := (show ∀ e ∈ namesL, (e.1 == Str.ofString "*") = false by decide +kernel) (W, op, bad, star, kind) hmem
  have hl : 1 ≤ W.length := (show ∀ e ∈ namesL, 1 ≤ e.1.length by decide +kernel) (W, op, bad, star, kind) hmem
  unfold inA at hA
  k_steps
  · exact hret.2 _ (by assumption) _ _ _ _ _ _ _ (by k_asm) (by k_asm)
  · exact hret.1 _ (by assumption) _ _ _ (by k_asm) (by k_asm)
def othersL : List (Wd × Str) := [(Wd.star, Str.ofString "*"),
  (Wd.var (Str.ofString "$v") (some (Str.ofString "v")), Str.ofString "$v"),
  (Wd.var (Str.ofString "$p:q") (some (Str.ofString "p:q")), Str.ofString "$p:q"),
  (Wd.var (Str.ofString "$") none, Str.ofString "$"),
  (Wd.var (Str.ofString "$p:*") none, Str.ofString "$p:*"),
  (Wd.fix (Str.ofString "number") (Str.ofString "7") (Str.ofString "7"), Str.ofString "7"),
  (Wd.fix (Str.ofString "number") (Str.ofString "1.5") (Str.ofString "1.5"), Str.ofString "1.5"),
  (Wd.fix (Str.ofString "number") (Str.ofString ".5") (Str.ofString ".5"), Str.ofString ".5"),
  (Wd.fix (Str.ofString "number") (Str.ofString "7.") (Str.ofString "7."), Str.ofString "7."),
  (Wd.fix (Str.ofString "literal") (Str.ofString "'x *'") (Str.ofString "x *"), Str.ofString "'x *'"),
  (Wd.fix (Str.ofString "literal") (Str.ofString "\"or\"") (Str.ofString "or"), Str.ofString "\"or\""),
  (Wd.fix (Str.ofString "literal") (Str.ofString "'or'") (Str.ofString "or"), Str.ofString "'or'"),
  (Wd.fix (Str.ofString "operator") (Str.ofString "/") (Str.ofString "/"), Str.ofString "/"),
  (Wd.fix (Str.ofString "operator") (Str.ofString "//") (Str.ofString "//"), Str.ofString "//"),
  (Wd.fix (Str.ofString "operator") (Str.ofString "|") (Str.ofString "|"), Str.ofString "|"),
  (Wd.fix (Str.ofString "operator") (Str.ofString "+") (Str.ofString "+"), Str.ofString "+"),
  (Wd.fix (Str.ofString "operator") (Str.ofString "-") (Str.ofString "-"), Str.ofString "-"),
  (Wd.fix (Str.ofString "operator") (Str.ofString "=") (Str.ofString "="), Str.ofString "="),
  (Wd.fix (Str.ofString "operator") (Str.ofString "!=") (Str.ofString "!="), Str.ofString "!="),
  (Wd.fix (Str.ofString "operator") (Str.ofString "<") (Str.ofString "<"), Str.ofString "<"),
  (Wd.fix (Str.ofString "operator") (Str.ofString "<=") (Str.ofString "<="), Str.ofString "<="),
  (Wd.fix (Str.ofString "operator") (Str.ofString ">") (Str.ofString ">"), Str.ofString ">"),
  (Wd.fix (Str.ofString "operator") (Str.ofString ">=") (Str.ofString ">="), Str.ofString ">="),
  (Wd.fix (Str.ofString "sign") (Str.ofString "(") (Str.ofString "("), Str.ofString "("),
  (Wd.fix (Str.ofString "sign") (Str.ofString ")") (Str.ofString ")"), Str.ofString ")"),
  (Wd.fix (Str.ofString "sign") (Str.ofString "[") (Str.ofString "["), Str.ofString "["),
  (Wd.fix (Str.ofString "sign") (Str.ofString "]") (Str.ofString "]"), Str.ofString "]"),
  (Wd.fix (Str.ofString "sign") (Str.ofString ".") (Str.ofString "."), Str.ofString "."),
  (Wd.fix (Str.ofString "sign") (Str.ofString "..") (Str.ofString ".."), Str.ofString ".."),
  (Wd.fix (Str.ofString "sign") (Str.ofString "@") (Str.ofString "@"), Str.ofString "@"),
  (Wd.fix (Str.ofString "sign") (Str.ofString ",") (Str.ofString ","), Str.ofString ","),
  (Wd.fix (Str.ofString "sign") (Str.ofString "::") (Str.ofString "::"), Str.ofString "::"),
  (Wd.bad (Str.ofString "!"), Str.ofString "!"),
  (Wd.bad (Str.ofString "#"), Str.ofString "#"),
  (Wd.bad (Str.ofString ";"), Str.ofString ";")]
def isLit : Wd → Bool
  | .fix k _ _ => k == Str.ofString "literal"
  | _ => false
theorem dead {b : Bool} {P : Prop} (h : b = true) (h2 : b = false) : P := by rw [h] at h2; cases h2
abbrev opsA (W : Str) : Bool := [Str.ofString "/", Str.ofString "//", Str.ofString "|", Str.ofString "+", Str.ofString "-", Str.ofString "=", Str.ofString "!=", Str.ofString "<", Str.ofString "<=", Str.ofString ">", Str.ofString ">="].any fun x => x == W
/-- a word that is none of the first kinds, by what the tests ask of it -/
theorem row_mk (w : World) (W : Str) (b : Bool) (n : Int) (f : Str) (tw tn tf : Tok) (rest : List (Addr × Obj)) (h0 : 0 ≤ n) (h1 : n ≤ 2000) (hl : 1 ≤ W.length) (hs : (W == Str.ofString "*") = false) (hA : inA W = true) (hD : (Txt.item W 0 == Str.ofString "$") = false) (hQ : inQ W = true)
    (hN : ([Str.ofString "7", Str.ofString "1.5", Str.ofString ".5", Str.ofString "7."].any fun x => x == W) = false) (hB : ([Str.ofString "!", Str.ofString "#", Str.ofString ";"].any fun x => x == W) = false) :
    Con w 3 90 320 [.str W tw, .bool b, .int n tn, .str f tf] rest (postR (.inr (if opsA W then Str.ofString "operator" else Str.ofString "sign", W, n)) rest) (fun _ => True) := by
  (unfold Con; intro mean mg mb dp un gd cn cs a ccd cl outer A₀ base h₀ L m s Q E B F X N T hk hd hu hret hex)
  (refine wpAny_call ?_; k_dflt (refine' code_def ?k1 ?k2 ?k3 ?k4 ?k5 ?kA ?kF ?kK ?k6 ?k7 ?k8 ?k9 ?kB ?_ ?c2 ?c3 ?c4 ?c5; (case kA => exact rfl); (case kF => exact rfl); (case kK => assumption); (case k1 => k_asm); (case k2 => k_asm); (case k3 => k_asm); (case k4 => first | k_asm | exact drop1 (by k_asm) | exact drop2 (by k_asm)); (case k5 => k_asm); (case k6 => k_is); (case k7 => k_is); (case k8 => ktr_room); (case k9 => first | exact BindsTo.of_eq rfl | exact binds_K (by k_in) rfl (by k_is) rfl rfl rfl); (case c5 => decide); (case kB => exact locs rfl); (case c2 => exact rfl); (case c3 => exact rfl); (case c4 => exact rfl); k_whole; intro g' L' h' FG' F' N' B' X' T'))
  (revert FG' F' N' B' X' T'; revert B F X N T hk hd hu hret hex; revert mean mg mb dp un gd cn cs a ccd cl outer A₀ base h₀ L m s Q E g' L' h'; revert w W b n f tw tn tf rest; refine ep9_all (by repeat' (first | exact ne_world | exact ne_sc | exact ⟨({} : Shared)⟩ | exact ⟨Wd.star⟩ | refine ne_pair ?_ ?_ | exact inferInstance)) ?_; intro eP eE; refine ((?eg3 : ∀ y0 y1 y2 y3 y4 y5 y6 y7 y8, eP y0 y1 y2 y3 y4 y5 y6 y7 y8) _ _ _ _ _ _ _ _ _); intro w W b n f tw tn tf rest; subst eE; set_option tactic.hygienic false in intro; set_option tactic.hygienic false in intros; revert FG' F' N' B' X' T'; revert B F X N T hk hd hu hret hex; revert mean mg mb dp un gd cn cs a ccd cl outer A₀ base h₀ L m s Q E g' L' h'; refine amb_all ?_; intro eP eE; refine ((?eg4 : ∀ y0 y1 y2 y3 y4 y5 y6 y7 y8 y9 y10 y11 y12 y13 y14 y15 y16 y17 y18 y19 y20 y21 y22, eP y0 y1 y2 y3 y4 y5 y6 y7 y8 y9 y10 y11 y12 y13 y14 y15 y16 y17 y18 y19 y20 y21 y22) _ _ _ _ _ _ _ _ _ _ _ _ _ _ _ _ _ _ _ _ _ _ _); intro mean mg mb dp un gd cn cs a ccd cl outer A₀ base h₀ L m s Q E g' L' h'; subst eE; set_option tactic.hygienic false in intro; set_option tactic.hygienic false in intros; skip)
  ((try dsimp only); (try k_lift B'))
  unfold inA at hA
  unfold inQ at hQ
  k_steps
  all_goals first | exact dead hA (by assumption) | exact dead hQ (by assumption) | exact dead (by assumption) hQ | (refine' fin_row hret ?F ?N ?s ?e; (case F => k_asm); (case N => k_asm); (case s => (intro p hp; (try simp only [List.mem_cons]); first | exact hp | exact .inr hp | exact .inr (.inr hp) | exact .inr (.inr (.inr hp)) | exact .inr (.inr (.inr (.inr hp))))); (case e => first | exact rfl | simp only [opsA, *, if_true, if_false, Bool.false_eq_true, Bool.and_true, Bool.true_and, Bool.and_false, Bool.false_and, Bool.not_true, Bool.not_false, Bool.or_false, Bool.false_or, Bool.or_true, Bool.true_or]))
theorem row_nu (w : World) (W : Str) (b : Bool) (n : Int) (f : Str) (tw tn tf : Tok) (rest : List (Addr × Obj)) (h0 : 0 ≤ n) (h1 : n ≤ 2000) (hl : 1 ≤ W.length) (hs : (W == Str.ofString "*") = false) (hA : inA W = true) (hD : (Txt.item W 0 == Str.ofString "$") = false) (hQ : inQ W = true)
    (hN : ([Str.ofString "7", Str.ofString "1.5", Str.ofString ".5", Str.ofString "7."].any fun x => x == W) = true) :
    Con w 3 90 320 [.str W tw, .bool b, .int n tn, .str f tf] rest (postR (.inr (Str.ofString "number", W, n)) rest) (fun _ => True) := by
  (unfold Con; intro mean mg mb dp un gd cn cs a ccd cl outer A₀ base h₀ L m s Q E B F X N T hk hd hu hret hex)
  (refine wpAny_call ?_; k_dflt (refine' code_def ?k1 ?k2 ?k3 ?k4 ?k5 ?kA ?kF ?kK ?k6 ?k7 ?k8 ?k9 ?kB ?_ ?c2 ?c3 ?c4 ?c5; (case kA => exact rfl); (case kF => exact rfl); (case kK => assumption); (case k1 => k_asm); (case k2 => k_asm); (case k3 => k_asm); (case k4 => first | k_asm | exact drop1 (by k_asm) | exact drop2 (by k_asm)); (case k5 => k_asm); (case k6 => k_is); (case k7 => k_is); (case k8 => ktr_room); (case k9 => first | exact BindsTo.of_eq rfl | exact binds_K (by k_in) rfl (by k_is) rfl rfl rfl); (case c5 => decide); (case kB => exact locs rfl); (case c2 => exact rfl); (case c3 => exact rfl); (case c4 => exact rfl); k_whole; intro g' L' h' FG' F' N' B' X' T'))
  (revert FG' F' N' B' X' T'; revert B F X N T hk hd hu hret hex; revert mean mg mb dp un gd cn cs a ccd cl outer A₀ base h₀ L m s Q E g' L' h'; revert w W b n f tw tn tf rest; refine ep9_all (by repeat' (first | exact ne_world | exact ne_sc | exact ⟨({} : Shared)⟩ | exact ⟨Wd.star⟩ | refine ne_pair ?_ ?_ | exact inferInstance)) ?_; intro eP eE; refine ((?eg5 : ∀ y0 y1 y2 y3 y4 y5 y6 y7 y8, eP y0 y1 y2 y3 y4 y5 y6 y7 y8) _ _ _ _ _ _ _ _ _); intro w W b n f tw tn tf rest; subst eE; set_option tactic.hygienic false in intro; set_option tactic.hygienic false in intros; revert FG' F' N' B' X' T'; revert B F X N T hk hd hu hret hex; revert mean mg mb dp un gd cn cs a ccd cl outer A₀ base h₀ L m s Q E g' L' h'; refine amb_all ?_; intro eP eE; refine ((?eg6 : ∀ y0 y1 y2 y3 y4 y5 y6 y7 y8 y9 y10 y11 y12 y13 y14 y15 y16 y17 y18 y19 y20 y21 y22, eP y0 y1 y2 y3 y4 y5 y6 y7 y8 y9 y10 y11 y12 y13 y14 y15 y16 y17 y18 y19 y20 y21 y22) _ _ _ _ _ _ _ _ _ _ _ _ _ _ _ _ _ _ _ _ _ _ _); intro mean mg mb dp un gd cn cs a ccd cl outer A₀ base h₀ L m s Q E g' L' h'; subst eE; set_option tactic.hygienic false in intro; set_option tactic.hygienic false in intros; skip)
  ((try dsimp only); (try k_lift B'))
  unfold inA at hA
  unfold inQ at hQ
  k_steps
  all_goals first | exact dead hA (by assumption) | exact dead hQ (by assumption) | exact dead (by assumption) hQ | (refine' fin_row hret ?F ?N ?s ?e; (case F => k_asm); (case N => k_asm); (case s => (intro p hp; (try simp only [List.mem_cons]); first | exact hp | exact .inr hp | exact .inr (.inr hp) | exact .inr (.inr (.inr hp)) | exact .inr (.inr (.inr (.inr hp))))); (case e => exact rfl))
theorem row_bd (w : World) (W : Str) (b : Bool) (n : Int) (f : Str) (tw tn tf : Tok) (rest : List (Addr × Obj)) (h0 : 0 ≤ n) (h1 : n ≤ 2000) (hl : 1 ≤ W.length) (hs : (W == Str.ofString "*") = false) (hA : inA W = true) (hD : (Txt.item W 0 == Str.ofString "$") = false) (hQ : inQ W = true)
    (hN : ([Str.ofString "7", Str.ofString "1.5", Str.ofString ".5", Str.ofString "7."].any fun x => x == W) = false) (hB : ([Str.ofString "!", Str.ofString "#", Str.ofString ";"].any fun x => x == W) = true) :
    Con w 3 90 320 [.str W tw, .bool b, .int n tn, .str f tf] rest (postR (.inl (Str.ofString "a strange sign at " ++ Str.ofString (toString n))) rest) (fun _ => True) := by
  (unfold Con; intro mean mg mb dp un gd cn cs a ccd cl outer A₀ base h₀ L m s Q E B F X N T hk hd hu hret hex)
  (refine wpAny_call ?_; k_dflt (refine' code_def ?k1 ?k2 ?k3 ?k4 ?k5 ?kA ?kF ?kK ?k6 ?k7 ?k8 ?k9 ?kB ?_ ?c2 ?c3 ?c4 ?c5; (case kA => exact rfl); (case kF => exact rfl); (case kK => assumption); (case k1 => k_asm); (case k2 => k_asm); (case k3 => k_asm); (case k4 => first | k_asm | exact drop1 (by k_asm) | exact drop2 (by k_asm)); (case k5 => k_asm); (case k6 => k_is); (case k7 => k_is); (case k8 => ktr_room); (case k9 => first | exact BindsTo.of_eq rfl | exact binds_K (by k_in) rfl (by k_is) rfl rfl rfl); (case c5 => decide); (case kB => exact locs rfl); (case c2 => exact rfl); (case c3 => exact rfl); (case c4 => exact rfl); k_whole; intro g' L' h' FG' F' N' B' X' T'))
  (revert FG' F' N' B' X' T'; revert B F X N T hk hd hu hret hex; revert mean mg mb dp un gd cn cs a ccd cl outer A₀ base h₀ L m s Q E g' L' h'; revert w W b n f tw tn tf rest; refine ep9_all (by repeat' (first | exact ne_world | exact ne_sc | exact ⟨({} : Shared)⟩ | exact ⟨Wd.star⟩ | refine ne_pair ?_ ?_ | exact inferInstance)) ?_; intro eP eE; refine ((?eg7 : ∀ y0 y1 y2 y3 y4 y5 y6 y7 y8, eP y0 y1 y2 y3 y4 y5 y6 y7 y8) _ _ _ _ _ _ _ _ _); intro w W b n f tw tn tf rest; subst eE; set_option tactic.hygienic false in intro; set_option tactic.hygienic false in intros; revert FG' F' N' B' X' T'; revert B F X N T hk hd hu hret hex; revert mean mg mb dp un gd cn cs a ccd cl outer A₀ base h₀ L m s Q E g' L' h'; refine amb_all ?_; intro eP eE; refine ((?eg8 : ∀ y0 y1 y2 y3 y4 y5 y6 y7 y8 y9 y10 y11 y12 y13 y14 y15 y16 y17 y18 y19 y20 y21 y22, eP y0 y1 y2 y3 y4 y5 y6 y7 y8 y9 y10 y11 y12 y13 y14 y15 y16 y17 y18 y19 y20 y21 y22) _ _ _ _ _ _ _ _ _ _ _ _ _ _ _ _ _ _ _ _ _ _ _); intro mean mg mb dp un gd cn cs a ccd cl outer A₀ base h₀ L m s Q E g' L' h'; subst eE; set_option tactic.hygienic false in intro; set_option tactic.hygienic false in intros; skip)
  ((try dsimp only); (try k_lift B'))
  unfold inA at hA
  unfold inQ at hQ
  k_steps
  all_goals first | exact dead hA (by assumption) | exact dead hQ (by assumption) | exact dead (by assumption) hQ | (refine' fin_txt hret ?F ?N ?s ?e; (case F => k_asm); (case N => k_asm); (case s => (intro p hp; (try simp only [List.mem_cons]); first | exact hp | exact .inr hp | exact .inr (.inr hp) | exact .inr (.inr (.inr hp)) | exact .inr (.inr (.inr (.inr hp))))); (case e => exact rfl))
theorem row_nv (w : World) (W : Str) (b : Bool) (n : Int) (f : Str) (tw tn tf : Tok) (rest : List (Addr × Obj)) (h0 : 0 ≤ n) (h1 : n ≤ 2000) (hl : 1 ≤ W.length) (hs : (W == Str.ofString "*") = false) (hA : inA W = true) (hD : (Txt.item W 0 == Str.ofString "$") = true)
    (hV : ([Str.ofString "$", Str.ofString "$p:*"].any fun x => x == W) = true) :
    Con w 3 90 320 [.str W tw, .bool b, .int n tn, .str f tf] rest (postR (.inl (Str.ofString "a variable has no name at " ++ Str.ofString (toString n))) rest) (fun _ => True) := by
  (unfold Con; intro mean mg mb dp un gd cn cs a ccd cl outer A₀ base h₀ L m s Q E B F X N T hk hd hu hret hex)
  (refine wpAny_call ?_; k_dflt (refine' code_def ?k1 ?k2 ?k3 ?k4 ?k5 ?kA ?kF ?kK ?k6 ?k7 ?k8 ?k9 ?kB ?_ ?c2 ?c3 ?c4 ?c5; (case kA => exact rfl); (case kF => exact rfl); (case kK => assumption); (case k1 => k_asm); (case k2 => k_asm); (case k3 => k_asm); (case k4 => first | k_asm | exact drop1 (by k_asm) | exact drop2 (by k_asm)); (case k5 => k_asm); (case k6 => k_is); (case k7 => k_is); (case k8 => ktr_room); (case k9 => first | exact BindsTo.of_eq rfl | exact binds_K (by k_in) rfl (by k_is) rfl rfl rfl); (case c5 => decide); (case kB => exact locs rfl); (case c2 => exact rfl); (case c3 => exact rfl); (case c4 => exact rfl); k_whole; intro g' L' h' FG' F' N' B' X' T'))
  (revert FG' F' N' B' X' T'; revert B F X N T hk hd hu hret hex; revert mean mg mb dp un gd cn cs a ccd cl outer A₀ base h₀ L m s Q E g' L' h'; revert w W b n f tw tn tf rest; refine ep9_all (by repeat' (first | exact ne_world | exact ne_sc | exact ⟨({} : Shared)⟩ | exact ⟨Wd.star⟩ | refine ne_pair ?_ ?_ | exact inferInstance)) ?_; intro eP eE; refine ((?eg9 : ∀ y0 y1 y2 y3 y4 y5 y6 y7 y8, eP y0 y1 y2 y3 y4 y5 y6 y7 y8) _ _ _ _ _ _ _ _ _); intro w W b n f tw tn tf rest; subst eE; set_option tactic.hygienic false in intro; set_option tactic.hygienic false in intros; revert FG' F' N' B' X' T'; revert B F X N T hk hd hu hret hex; revert mean mg mb dp un gd cn cs a ccd cl outer A₀ base h₀ L m s Q E g' L' h'; refine amb_all ?_; intro eP eE; refine ((?eg10 : ∀ y0 y1 y2 y3 y4 y5 y6 y7 y8 y9 y10 y11 y12 y13 y14 y15 y16 y17 y18 y19 y20 y21 y22, eP y0 y1 y2 y3 y4 y5 y6 y7 y8 y9 y10 y11 y12 y13 y14 y15 y16 y17 y18 y19 y20 y21 y22) _ _ _ _ _ _ _ _ _ _ _ _ _ _ _ _ _ _ _ _ _ _ _); intro mean mg mb dp un gd cn cs a ccd cl outer A₀ base h₀ L m s Q E g' L' h'; subst eE; set_option tactic.hygienic false in intro; set_option tactic.hygienic false in intros; skip)
  ((try dsimp only); (try k_lift B'))
  unfold inA at hA
  k_steps
  all_goals first | exact dead hA (by assumption) | (refine' fin_txt hret ?F ?N ?s ?e; (case F => k_asm); (case N => k_asm); (case s => (intro p hp; (try simp only [List.mem_cons]); first | exact hp | exact .inr hp | exact .inr (.inr hp) | exact .inr (.inr (.inr hp)) | exact .inr (.inr (.inr (.inr hp))))); (case e => exact rfl))
theorem row_star (w : World) (b : Bool) (n : Int) (f : Str) (tw tn tf : Tok) (rest : List (Addr × Obj)) (h0 : 0 ≤ n) (h1 : n ≤ 2000) :
    Con w 3 90 320 [.str (Str.ofString "*") tw, .bool b, .int n tn, .str f tf] rest (postR (rowL .star b n f) rest) (fun _ => True) := by
  (unfold Con; intro mean mg mb dp un gd cn cs a ccd cl outer A₀ base h₀ L m s Q E B F X N T hk hd hu hret hex)
  (refine wpAny_call ?_; k_dflt (refine' code_def ?k1 ?k2 ?k3 ?k4 ?k5 ?kA ?kF ?kK ?k6 ?k7 ?k8 ?k9 ?kB ?_ ?c2 ?c3 ?c4 ?c5; (case kA => exact rfl); (case kF => exact rfl); (case kK => assumption); (case k1 => k_asm); (case k2 => k_asm); (case k3 => k_asm); (case k4 => first | k_asm | exact drop1 (by k_asm) | exact drop2 (by k_asm)); (case k5 => k_asm); (case k6 => k_is); (case k7 => k_is); (case k8 => ktr_room); (case k9 => first | exact BindsTo.of_eq rfl | exact binds_K (by k_in) rfl (by k_is) rfl rfl rfl); (case c5 => decide); (case kB => exact locs rfl); (case c2 => exact rfl); (case c3 => exact rfl); (case c4 => exact rfl); k_whole; intro g' L' h' FG' F' N' B' X' T'))
  (revert FG' F' N' B' X' T'; revert B F X N T hk hd hu hret hex; revert mean mg mb dp un gd cn cs a ccd cl outer A₀ base h₀ L m s Q E g' L' h'; revert w b n f tw tn tf rest; refine ep8_all (by repeat' (first | exact ne_world | exact ne_sc | exact ⟨({} : Shared)⟩ | exact ⟨Wd.star⟩ | refine ne_pair ?_ ?_ | exact inferInstance)) ?_; intro eP eE; refine ((?eg11 : ∀ y0 y1 y2 y3 y4 y5 y6 y7, eP y0 y1 y2 y3 y4 y5 y6 y7) _ _ _ _ _ _ _ _); intro w b n f tw tn tf rest; subst eE; set_option tactic.hygienic false in intro; set_option tactic.hygienic false in intros; revert FG' F' N' B' X' T'; revert B F X N T hk hd hu hret hex; revert mean mg mb dp un gd cn cs a ccd cl outer A₀ base h₀ L m s Q E g' L' h'; refine amb_all ?_; intro eP eE; refine ((?eg12 : ∀ y0 y1 y2 y3 y4 y5 y6 y7 y8 y9 y10 y11 y12 y13 y14 y15 y16 y17 y18 y19 y20 y21 y22, eP y0 y1 y2 y3 y4 y5 y6 y7 y8 y9 y10 y11 y12 y13 y14 y15 y16 y17 y18 y19 y20 y21 y22) _ _ _ _ _ _ _ _ _ _ _ _ _ _ _ _ _ _ _ _ _ _ _); intro mean mg mb dp un gd cn cs a ccd cl outer A₀ base h₀ L m s Q E g' L' h'; subst eE; set_option tactic.hygienic false in intro; set_option tactic.hygienic false in intros; skip)
  ((try dsimp only); (try k_lift B'))
  k_steps
  all_goals (refine' fin_row hret ?F ?N ?s ?e; (case F => k_asm); (case N => k_asm); (case s => (intro p hp; (try simp only [List.mem_cons]); first | exact hp | exact .inr hp | exact .inr (.inr hp) | exact .inr (.inr (.inr hp)) | exact .inr (.inr (.inr (.inr hp))))); (case e => first | exact rfl | simp only [rowL, *, if_true, if_false, Bool.false_eq_true, Bool.and_true, Bool.true_and, Bool.and_false, Bool.false_and, Bool.not_true, Bool.not_false, Bool.or_false, Bool.false_or, Bool.or_true, Bool.true_or]))
/-- the words of which a part is told: written out -/
theorem row_cut (w : World) (wd : Wd) (W : Str) (b : Bool) (n : Int) (f : Str) (tw tn tf : Tok) (rest : List (Addr × Obj)) (h0 : 0 ≤ n) (h1 : n ≤ 2000) (hA : inA W = true) (hQ : (isLit wd = false → inQ W = true) ∧ (isLit wd = true → inQ W = false))
    (hmem : (wd = Wd.var (Str.ofString "$v") (some (Str.ofString "v")) ∧ W = Str.ofString "$v") ∨ (wd = Wd.var (Str.ofString "$p:q") (some (Str.ofString "p:q")) ∧ W = Str.ofString "$p:q") ∨ (wd = Wd.fix (Str.ofString "literal") (Str.ofString "'x *'") (Str.ofString "x *") ∧ W = Str.ofString "'x *'") ∨ (wd = Wd.fix (Str.ofString "literal") (Str.ofString "\"or\"") (Str.ofString "or") ∧ W = Str.ofString "\"or\"") ∨ (wd = Wd.fix (Str.ofString "literal") (Str.ofString "'or'") (Str.ofString "or") ∧ W = Str.ofString "'or'")) :
    Con w 3 90 320 [.str W tw, .bool b, .int n tn, .str f tf] rest (postR (rowL wd b n f) rest) (fun _ => True) := by
  (unfold Con; intro mean mg mb dp un gd cn cs a ccd cl outer A₀ base h₀ L m s Q E B F X N T hk hd hu hret hex)
  (refine wpAny_call ?_; k_dflt (refine' code_def ?k1 ?k2 ?k3 ?k4 ?k5 ?kA ?kF ?kK ?k6 ?k7 ?k8 ?k9 ?kB ?_ ?c2 ?c3 ?c4 ?c5; (case kA => exact rfl); (case kF => exact rfl); (case kK => assumption); (case k1 => k_asm); (case k2 => k_asm); (case k3 => k_asm); (case k4 => first | k_asm | exact drop1 (by k_asm) | exact drop2 (by k_asm)); (case k5 => k_asm); (case k6 => k_is); (case k7 => k_is); (case k8 => ktr_room); (case k9 => first | exact BindsTo.of_eq rfl | exact binds_K (by k_in) rfl (by k_is) rfl rfl rfl); (case c5 => decide); (case kB => exact locs rfl); (case c2 => exact rfl); (case c3 => exact rfl); (case c4 => exact rfl); k_whole; intro g' L' h' FG' F' N' B' X' T'))
  (revert FG' F' N' B' X' T'; revert B F X N T hk hd hu hret hex; revert mean mg mb dp un gd cn cs a ccd cl outer A₀ base h₀ L m s Q E g' L' h'; revert h0 h1 hA hQ hmem; revert w wd W b n f tw tn tf rest; refine ep10_all (by repeat' (first | exact ne_world | exact ne_sc | exact ⟨({} : Shared)⟩ | exact ⟨Wd.star⟩ | refine ne_pair ?_ ?_ | exact inferInstance)) ?_; intro eP eE; refine ((?eg13 : ∀ y0 y1 y2 y3 y4 y5 y6 y7 y8 y9, eP y0 y1 y2 y3 y4 y5 y6 y7 y8 y9) _ _ _ _ _ _ _ _ _ _); intro w wd W b n f tw tn tf rest; subst eE; set_option tactic.hygienic false in intro; set_option tactic.hygienic false in intros; revert FG' F' N' B' X' T'; revert B F X N T hk hd hu hret hex; revert mean mg mb dp un gd cn cs a ccd cl outer A₀ base h₀ L m s Q E g' L' h'; refine amb_all ?_; intro eP eE; refine ((?eg14 : ∀ y0 y1 y2 y3 y4 y5 y6 y7 y8 y9 y10 y11 y12 y13 y14 y15 y16 y17 y18 y19 y20 y21 y22, eP y0 y1 y2 y3 y4 y5 y6 y7 y8 y9 y10 y11 y12 y13 y14 y15 y16 y17 y18 y19 y20 y21 y22) _ _ _ _ _ _ _ _ _ _ _ _ _ _ _ _ _ _ _ _ _ _ _); intro mean mg mb dp un gd cn cs a ccd cl outer A₀ base h₀ L m s Q E g' L' h'; subst eE; set_option tactic.hygienic false in intro; set_option tactic.hygienic false in intros; skip)
  ((try dsimp only); (try k_lift B'))
  unfold inA at hA
  rcases hmem with ⟨rfl, rfl⟩ | ⟨rfl, rfl⟩ | ⟨rfl, rfl⟩ | ⟨rfl, rfl⟩ | ⟨rfl, rfl⟩
  all_goals (
    (first | replace hQ := hQ.1 rfl | replace hQ := hQ.2 (by decide +kernel))
    unfold inQ at hQ
    k_steps
    all_goals first | exact dead hA (by assumption) | exact dead hQ (by assumption) | exact dead (by assumption) hQ | (refine' fin_row hret ?F ?N ?s ?e; (case F => k_asm); (case N => k_asm); (case s => (intro p hp; (try simp only [List.mem_cons]); first | exact hp | exact .inr hp | exact .inr (.inr hp) | exact .inr (.inr (.inr hp)) | exact .inr (.inr (.inr (.inr hp))))); (case e => exact rfl)))
theorem row_mk_to {w : World} {W k : Str} {b : Bool} {n : Int} {f : Str} {tw tn tf : Tok} {rest : List (Addr × Obj)} (h : Con w 3 90 320 [.str W tw, .bool b, .int n tn, .str f tf] rest (postR (.inr (if opsA W then Str.ofString "operator" else Str.ofString "sign", W, n)) rest) (fun _ => True)) (e : (if opsA W then Str.ofString "operator" else Str.ofString "sign") = k) :
    Con w 3 90 320 [.str W tw, .bool b, .int n tn, .str f tf] rest (postR (.inr (k, W, n)) rest) (fun _ => True) := by
  rw [e] at h; exact h
theorem row_ot (w : World) (wd : Wd) (W : Str) (b : Bool) (n : Int) (f : Str) (tw tn tf : Tok) (rest : List (Addr × Obj)) (hmem : (wd, W) ∈ othersL) (h0 : 0 ≤ n) (h1 : n ≤ 2000) :
    Con w 3 90 320 [.str W tw, .bool b, .int n tn, .str f tf] rest (postR (rowL wd b n f) rest) (fun _ => True) := by
  simp only [othersL, List.mem_cons, Prod.mk.injEq, List.not_mem_nil, or_false] at hmem
  rcases hmem with ⟨rfl, rfl⟩ | ⟨rfl, rfl⟩ | ⟨rfl, rfl⟩ | ⟨rfl, rfl⟩ | ⟨rfl, rfl⟩ | ⟨rfl, rfl⟩ | ⟨rfl, rfl⟩ | ⟨rfl, rfl⟩ | ⟨rfl, rfl⟩ | ⟨rfl, rfl⟩ | ⟨rfl, rfl⟩ | ⟨rfl, rfl⟩ | ⟨rfl, rfl⟩ | ⟨rfl, rfl⟩ | ⟨rfl, rfl⟩ | ⟨rfl, rfl⟩ | ⟨rfl, rfl⟩ | ⟨rfl, rfl⟩ | ⟨rfl, rfl⟩ | ⟨rfl, rfl⟩ | ⟨rfl, rfl⟩ | ⟨rfl, rfl⟩ | ⟨rfl, rfl⟩ | ⟨rfl, rfl⟩ | ⟨rfl, rfl⟩ | ⟨rfl, rfl⟩ | ⟨rfl, rfl⟩ | ⟨rfl, rfl⟩ | ⟨rfl, rfl⟩ | ⟨rfl, rfl⟩ | ⟨rfl, rfl⟩ | ⟨rfl, rfl⟩ | ⟨rfl, rfl⟩ | ⟨rfl, rfl⟩ | ⟨rfl, rfl⟩
  · exact row_star w b n f tw tn tf rest h0 h1
  · exact row_cut w _ _ b n f tw tn tf rest h0 h1 (by decide +kernel) ⟨(by decide +kernel), (by decide +kernel)⟩ (.inl ⟨rfl, rfl⟩)
  · exact row_cut w _ _ b n f tw tn tf rest h0 h1 (by decide +kernel) ⟨(by decide +kernel), (by decide +kernel)⟩ (.inr (.inl ⟨rfl, rfl⟩))
  · exact row_nv w _ b n f tw tn tf rest h0 h1 (by decide +kernel) (by decide +kernel) (by decide +kernel) (by decide +kernel) (by decide +kernel)
  · exact row_nv w _ b n f tw tn tf rest h0 h1 (by decide +kernel) (by decide +kernel) (by decide +kernel) (by decide +kernel) (by decide +kernel)
  · exact row_nu w _ b n f tw tn tf rest h0 h1 (by decide +kernel) (by decide +kernel) (by decide +kernel) (by decide +kernel) (by decide +kernel) (by decide +kernel)
  · exact row_nu w _ b n f tw tn tf rest h0 h1 (by decide +kernel) (by decide +kernel) (by decide +kernel) (by decide +kernel) (by decide +kernel) (by decide +kernel)
  · exact row_nu w _ b n f tw tn tf rest h0 h1 (by decide +kernel) (by decide +kernel) (by decide +kernel) (by decide +kernel) (by decide +kernel) (by decide +kernel)
  · exact row_nu w _ b n f tw tn tf rest h0 h1 (by decide +kernel) (by decide +kernel) (by decide +kernel) (by decide +kernel) (by decide +kernel) (by decide +kernel)
  · exact row_cut w _ _ b n f tw tn tf rest h0 h1 (by decide +kernel) ⟨(by decide +kernel), (by decide +kernel)⟩ (.inr (.inr (.inl ⟨rfl, rfl⟩)))
  · exact row_cut w _ _ b n f tw tn tf rest h0 h1 (by decide +kernel) ⟨(by decide +kernel), (by decide +kernel)⟩ (.inr (.inr (.inr (.inl ⟨rfl, rfl⟩))))
  · exact row_cut w _ _ b n f tw tn tf rest h0 h1 (by decide +kernel) ⟨(by decide +kernel), (by decide +kernel)⟩ (.inr (.inr (.inr (.inr (⟨rfl, rfl⟩)))))
  · exact row_mk_to (row_mk w _ b n f tw tn tf rest h0 h1 (by decide +kernel) (by decide +kernel) (by decide +kernel) (by decide +kernel) (by decide +kernel) (by decide +kernel) (by decide +kernel)) (by decide +kernel)
  · exact row_mk_to (row_mk w _ b n f tw tn tf rest h0 h1 (by decide +kernel) (by decide +kernel) (by decide +kernel) (by decide +kernel) (by decide +kernel) (by decide +kernel) (by decide +kernel)) (by decide +kernel)
  · exact row_mk_to (row_mk w _ b n f tw tn tf rest h0 h1 (by decide +kernel) (by decide +kernel) (by decide +kernel) (by decide +kernel) (by decide +kernel) (by decide +kernel) (by decide +kernel)) (by decide +kernel)
  · exact row_mk_to (row_mk w _ b n f tw tn tf rest h0 h1 (by decide +kernel) (by decide +kernel) (by decide +kernel) (by decide +kernel) (by decide +kernel) (by decide +kernel) (by decide +kernel)) (by decide +kernel)
  · exact row_mk_to (row_mk w _ b n f tw tn tf rest h0 h1 (by decide +kernel) (by decide +kernel) (by decide +kernel) (by decide +kernel) (by decide +kernel) (by decide +kernel) (by decide +kernel)) (by decide +kernel)
  · exact row_mk_to (row_mk w _ b n f tw tn tf rest h0 h1 (by decide +kernel) (by decide +kernel) (by decide +kernel) (by decide +kernel) (by decide +kernel) (by decide +kernel) (by decide +kernel)) (by decide +kernel)
  · exact row_mk_to (row_mk w _ b n f tw tn tf rest h0 h1 (by decide +kernel) (by decide +kernel) (by decide +kernel) (by decide +kernel) (by decide +kernel) (by decide +kernel) (by decide +kernel)) (by decide +kernel)
  · exact row_mk_to (row_mk w _ b n f tw tn tf rest h0 h1 (by decide +kernel) (by decide +kernel) (by decide +kernel) (by decide +kernel) (by decide +kernel) (by decide +kernel) (by decide +kernel)) (by decide +kernel)
  · exact row_mk_to (row_mk w _ b n f tw tn tf rest h0 h1 (by decide +kernel) (by decide +kernel) (by decide +kernel) (by decide +kernel) (by decide +kernel) (by decide +kernel) (by decide +kernel)) (by decide +kernel)
  · exact row_mk_to (row_mk w _ b n f tw tn tf rest h0 h1 (by decide +kernel) (by decide +kernel) (by decide +kernel) (by decide +kernel) (by decide +kernel) (by decide +kernel) (by decide +kernel)) (by decide +kernel)
  · exact row_mk_to (row_mk w _ b n f tw tn tf rest h0 h1 (by decide +kernel) (by decide +kernel) (by decide +kernel) (by decide +kernel) (by decide +kernel) (by decide +kernel) (by decide +kernel)) (by decide +kernel)
  · exact row_mk_to (row_mk w _ b n f tw tn tf rest h0 h1 (by decide +kernel) (by decide +kernel) (by decide +kernel) (by decide +kernel) (by decide +kernel) (by decide +kernel) (by decide +kernel)) (by decide +kernel)
  · exact row_mk_to (row_mk w _ b n f tw tn tf rest h0 h1 (by decide +kernel) (by decide +kernel) (by decide +kernel) (by decide +kernel) (by decide +kernel) (by decide +kernel) (by decide +kernel)) (by decide +kernel)
  · exact row_mk_to (row_mk w _ b n f tw tn tf rest h0 h1 (by decide +kernel) (by decide +kernel) (by decide +kernel) (by decide +kernel) (by decide +kernel) (by decide +kernel) (by decide +kernel)) (by decide +kernel)
  · exact row_mk_to (row_mk w _ b n f tw tn tf rest h0 h1 (by decide +kernel) (by decide +kernel) (by decide +kernel) (by decide +kernel) (by decide +kernel) (by decide +kernel) (by decide +kernel)) (by decide +kernel)
  · exact row_mk_to (row_mk w _ b n f tw tn tf rest h0 h1 (by decide +kernel) (by decide +kernel) (by decide +kernel) (by decide +kernel) (by decide +kernel) (by decide +kernel) (by decide +kernel)) (by decide +kernel)
  · exact row_mk_to (row_mk w _ b n f tw tn tf rest h0 h1 (by decide +kernel) (by decide +kernel) (by decide +kernel) (by decide +kernel) (by decide +kernel) (by decide +kernel) (by decide +kernel)) (by decide +kernel)
  · exact row_mk_to (row_mk w _ b n f tw tn tf rest h0 h1 (by decide +kernel) (by decide +kernel) (by decide +kernel) (by decide +kernel) (by decide +kernel) (by decide +kernel) (by decide +kernel)) (by decide +kernel)
  · exact row_mk_to (row_mk w _ b n f tw tn tf rest h0 h1 (by decide +kernel) (by decide +kernel) (by decide +kernel) (by decide +kernel) (by decide +kernel) (by decide +kernel) (by decide +kernel)) (by decide +kernel)
  · exact row_mk_to (row_mk w _ b n f tw tn tf rest h0 h1 (by decide +kernel) (by decide +kernel) (by decide +kernel) (by decide +kernel) (by decide +kernel) (by decide +kernel) (by decide +kernel)) (by decide +kernel)
  · exact row_bd w _ b n f tw tn tf rest h0 h1 (by decide +kernel) (by decide +kernel) (by decide +kernel) (by decide +kernel) (by decide +kernel) (by decide +kernel) (by decide +kernel)
  · exact row_bd w _ b n f tw tn tf rest h0 h1 (by decide +kernel) (by decide +kernel) (by decide +kernel) (by decide +kernel) (by decide +kernel) (by decide +kernel) (by decide +kernel)
  · exact row_bd w _ b n f tw tn tf rest h0 h1 (by decide +kernel) (by decide +kernel) (by decide +kernel) (by decide +kernel) (by decide +kernel) (by decide +kernel) (by decide +kernel)

-- C3
theorem hk476 : True := by
  k_with_none
  exact True.intro
theorem hk473 : True := by
  k_with "mine k_all" => (assumption)
  exact True.intro
theorem hk474 : True := by
  k_with "mine binaryOp FloorDiv int int" => ((k_here; (with_reducible refine' floordiv_int ?a ?_ (Or.inl (PyProof.noPylong_small ?b)); (case a => omega); (case b => omega))))
  exact True.intro
theorem bits31 {x : Int} (h0 : 0 ≤ x) (h1 : x < 2147483647) : Builtin.Int.intBits x ≤ 64 := by
  unfold Builtin.Int.intBits
  split
  · exact Nat.zero_le _
  · rename_i h
    have hn : x.natAbs ≠ 0 := fun q => h (by rw [Int.natAbs_eq_zero.mp q]; rfl)
    have : x.natAbs.log2 < 31 := (Nat.log2_lt hn).mpr (by omega)
    omega
theorem fmodB (x : Int) : 0 ≤ x.fmod 2147483647 ∧ x.fmod 2147483647 < 2147483647 := ⟨Int.fmod_nonneg_of_pos _ (by decide), Int.fmod_lt_of_pos _ (by decide)⟩
theorem hk475 : True := by
  k_with "mine binaryOp Mult int int" => ((k_here; (with_reducible refine' mul_int ?_ ?m; (case m => assumption))))
  exact True.intro
theorem pick_c (w : World) (bg : Addr) (p q top : Int) (tp tq tt : Tok) (ep : Nat) (rest : List (Addr × Obj)) (hp : 0 ≤ p) (hq : 0 ≤ q) (hq2 : q < 2147483647) (ht : 0 < top) (ht2 : top ≤ 100) (hb : ∀ x ∈ rest, x.1 ≠ bg) :
    Con w 1 40 294 [.ref bg, .int top tt] ((bg, listOf #[.int p tp, .int q tq] ep) :: rest)
      (fun R => ∀ r p' q' t t1 t2 ep', 0 ≤ r → r < top → 0 ≤ p' → 0 ≤ q' → q' < 2147483647 → R (.int r t) ((bg, listOf #[.int p' t1, .int q' t2] ep') :: rest)) (fun _ => True) := by
  have hm : IntMulOk ([p, ([p, q].getD (Int.toNat 1) 0 * 39373 + 7).fmod 2147483647].getD (Int.toNat 1) 0) ([p, ([p, q].getD (Int.toNat 1) 0 * 39373 + 7).fmod 2147483647].getD (Int.toNat 1) 0) :=
    IntMulOk.of_left (bits31 (fmodB _).1 (fmodB _).2)
  (unfold Con; intro mean mg mb dp un gd cn cs a ccd cl outer A₀ base h₀ L m s Q E B F X N T hk hd hu hret hex)
  (refine wpAny_call ?_; k_dflt (refine' code_def ?k1 ?k2 ?k3 ?k4 ?k5 ?kA ?kF ?kK ?k6 ?k7 ?k8 ?k9 ?kB ?_ ?c2 ?c3 ?c4 ?c5; (case kA => exact rfl); (case kF => exact rfl); (case kK => assumption); (case k1 => k_asm); (case k2 => k_asm); (case k3 => k_asm); (case k4 => first | k_asm | exact drop1 (by k_asm) | exact drop2 (by k_asm)); (case k5 => k_asm); (case k6 => k_is); (case k7 => k_is); (case k8 => ktr_room); (case k9 => first | exact BindsTo.of_eq rfl | exact binds_K (by k_in) rfl (by k_is) rfl rfl rfl); (case c5 => decide); (case kB => exact locs rfl); (case c2 => exact rfl); (case c3 => exact rfl); (case c4 => exact rfl); k_whole; intro g' L' h' FG' F' N' B' X' T'; (try dsimp only); (try k_lift B'); (try k_fold)))
  k_steps
  · refine hret _ _ _ _ _ _ _ (Int.fmod_nonneg_of_pos _ ht) (Int.fmod_lt_of_pos _ ht) ?_ hq hq2 _ _ (by k_asm) (by k_asm)
    exact Int.fdiv_nonneg hp (by omega)
  · exact hret _ _ _ _ _ _ _ (Int.fmod_nonneg_of_pos _ ht) (Int.fmod_lt_of_pos _ ht) hp (fmodB _).1 (fmodB _).2 _ _ (by k_asm) (by k_asm)

-- C4
theorem hk480 : True := by
  k_with_none
  exact True.intro
theorem hk477 : True := by
  k_with "mine k_all" => (assumption)
  exact True.intro
theorem hk478 : True := by
  k_with "mine call ref" => ((k_here; (k_dflt (show wpAny _ _ (call (Value.ref 294) _) _ _ _)); k_dflt (refine' useU (C := pick_c _ _ _ _ _ _ _ _ _ _ hp hq hq2 (by omega) (by omega) (by k_all)) (hp := ?_)); intro r' p' q' t' t1' t2' ep' hr0 hr1 hp1 hq1 hq3 h' tk' F' N'))
  exact True.intro
theorem swap2 {h₀ h : Heap} {L : Addr} {a b : Addr × Obj} {news : List (Addr × Obj)} (N : News h₀ L h (a :: b :: news)) : News h₀ L h (b :: a :: news) := fun p hp => N p (by
  simp only [List.mem_cons] at hp ⊢
  rcases hp with h | h | h
  · exact .inr (.inl h)
  · exact .inl h
  · exact .inr (.inr h))
section
variable {prog : Program} {w : World} {A : Around} {s : Shared} {h₀ : Heap} {L : Addr} {m : Str → Option Value} {E : Value → Shared → Prop}
theorem at_lst {Q : Value → Shared → Prop} {value slice : PySem.Expr} {th : Addr} {l : List Value} {ep : Nat} {k : Int} {u : Tok} {news : List (Addr × Obj)} (N : News h₀ L s.heap news) (hm : (th, listOf l.toArray ep) ∈ news) (k0 : 0 ≤ k) (kn : k < (l.toArray.size : Int)) (z : l.toArray.size ≤ 100) (h : ∀ (i : Nat) v, l[i]? = some v → Q v s)
    (hs : subscripted slice false (.ref th) (.int k u) = operate [.ref th, .int k u] (getItem (.ref th) (.int k u)) := by with_unfolding_all rfl) (hg : ∀ r, letTemporaryGo value (.ref th) r = pure () := by intro _; with_unfolding_all rfl) :
    wpAny (model prog w) A (subscriptTail value slice (.ref th) (.int k u)) Q E s := by
  have hz : l.toArray.size = l.length := List.size_toArray ..
  have hi : k.toNat < l.length := by omega
  have e : l[k.toNat]? = some l[k.toNat] := List.getElem?_eq_getElem hi
  exact kim_list N hm rfl rfl k0 (by omega) e (h _ _ e) hs hg
end
theorem hk479 : True := by
  k_with "mine subscriptTail" => ((k_here; k_dflt (refine' at_lst ?N ?a ?b ?c ?z ?_ ?s ?g; (case N => k_asm); (case a => k_mem); (case b => assumption); (case c => assumption); (case z => assumption); (case s => with_unfolding_all rfl); (case g => (intro _; with_unfolding_all rfl))); intro i'_q v'_q hv'_q))
  exact True.intro
theorem one_c (w : World) (bg th : Addr) (l : List Value) (ep1 : Nat) (p q : Int) (tp tq : Tok) (ep : Nat) (rest : List (Addr × Obj)) (hp : 0 ≤ p) (hq : 0 ≤ q) (hq2 : q < 2147483647) (hl : 0 < l.toArray.size) (hl2 : l.toArray.size ≤ 100) (hb : ∀ x ∈ rest, x.1 ≠ bg) (hne : th ≠ bg) :
    Con w 2 80 301 [.ref bg, .ref th] ((bg, listOf #[.int p tp, .int q tq] ep) :: (th, listOf l.toArray ep1) :: rest)
      (fun R => ∀ (i : Nat) v p' q' t1 t2 ep', l[i]? = some v → 0 ≤ p' → 0 ≤ q' → q' < 2147483647 → R v ((bg, listOf #[.int p' t1, .int q' t2] ep') :: (th, listOf l.toArray ep1) :: rest)) (fun _ => True) := by
  have hb2 : ∀ x ∈ ((th, listOf l.toArray ep1) :: rest), x.1 ≠ bg := fun x hx => by
    rcases List.mem_cons.mp hx with rfl | hx
    · exact hne
    · exact hb x hx
  (unfold Con; intro mean mg mb dp un gd cn cs a ccd cl outer A₀ base h₀ L m s Q E B F X N T hk hd hu hret hex)
  (refine wpAny_call ?_; k_dflt (refine' code_def ?k1 ?k2 ?k3 ?k4 ?k5 ?kA ?kF ?kK ?k6 ?k7 ?k8 ?k9 ?kB ?_ ?c2 ?c3 ?c4 ?c5; (case kA => exact rfl); (case kF => exact rfl); (case kK => assumption); (case k1 => k_asm); (case k2 => k_asm); (case k3 => k_asm); (case k4 => first | k_asm | exact drop1 (by k_asm) | exact drop2 (by k_asm)); (case k5 => k_asm); (case k6 => k_is); (case k7 => k_is); (case k8 => ktr_room); (case k9 => first | exact BindsTo.of_eq rfl | exact binds_K (by k_in) rfl (by k_is) rfl rfl rfl); (case c5 => decide); (case kB => exact locs rfl); (case c2 => exact rfl); (case c3 => exact rfl); (case c4 => exact rfl); k_whole; intro g' L' h' FG' F' N' B' X' T'; (try dsimp only); (try k_lift B'); (try k_fold)))
  k_steps
  exact hret _ _ _ _ _ _ _ (by assumption) hp1 hq1 hq3 _ _ (by k_asm) (by k_asm)

-- L0
/-- the codes of a text -/
abbrev cds (x : Str) : List Nat := x.cps.toList
theorem one_beq (c d : Nat) : ((⟨#[c]⟩ : Str) == ⟨#[d]⟩) = (c == d) := by
  by_cases h : c = d
  · subst h; rw [beq_self_eq_true, beq_self_eq_true]
  · have : (⟨#[c]⟩ : Str) ≠ ⟨#[d]⟩ := fun q => h (by simpa using congrArg Str.cps q)
    rw [beq_eq_false_iff_ne.mpr h, beq_eq_false_iff_ne.mpr this]
theorem one_beq0 (c : Nat) : ((⟨#[c]⟩ : Str) == ⟨#[]⟩) = false := by
  have : (⟨#[c]⟩ : Str) ≠ ⟨#[]⟩ := fun q => by simpa using congrArg Str.cps q
  simp [this]
/-- what may stand behind a word: nothing, or a blank -/
def Tl (t : List Nat) : Prop := t = [] ∨ (∃ r, t = 32 :: r) ∨ ∃ r, t = 10 :: r
theorem Tl.sgn {t : List Nat} (h : Tl t) : sgn t = Str.ofString "" ∨ sgn t = Str.ofString " " ∨ sgn t = Str.ofString "\n" := by
  rcases h with rfl | ⟨r, rfl⟩ | ⟨r, rfl⟩
  · exact .inl (by decide +kernel)
  · exact .inr (.inl (show (⟨#[32]⟩ : Str) = _ by decide +kernel))
  · exact .inr (.inr (show (⟨#[10]⟩ : Str) = _ by decide +kernel))
theorem Tl.fig {t : List Nat} (h : Tl t) : figN t = 0 := by
  rcases h with rfl | ⟨r, rfl⟩ | ⟨r, rfl⟩
  · rfl
  · rw [figN_cons, if_neg (by decide +kernel)]
  · rw [figN_cons, if_neg (by decide +kernel)]
theorem Tl.nmC {t : List Nat} (h : Tl t) : nmC t = 0 := by
  rcases h with rfl | ⟨r, rfl⟩ | ⟨r, rfl⟩
  · rfl
  · rw [nmC_cons, if_neg (by decide +kernel)]
  · rw [nmC_cons, if_neg (by decide +kernel)]
theorem Tl.nmN {t : List Nat} (h : Tl t) : nmN t = 0 := by
  rcases h with rfl | ⟨r, rfl⟩ | ⟨r, rfl⟩
  · rfl
  · unfold Mine.nmN; exact if_pos (by decide +kernel)
  · unfold Mine.nmN; exact if_pos (by decide +kernel)
theorem Tl.ne {t : List Nat} (h : Tl t) (x : Str) (h0 : (Str.ofString "" == x) = false) (h1 : (Str.ofString " " == x) = false) (h2 : (Str.ofString "\n" == x) = false) : (Mine.sgn t == x) = false := by
  rcases h.sgn with e | e | e <;> rw [e] <;> assumption
/-- all signs of l go on a name -/
def nmAll (l : List Nat) : Bool := l.all fun c => ((⟨#[c]⟩ : Str) != Str.ofString ":") && isChar ⟨#[c]⟩
theorem nmC_app {t : List Nat} (ht : nmC t = 0) : ∀ l, nmAll l = true → nmC (l ++ t) = l.length
  | [], _ => ht
  | c :: l, h => by
    simp only [nmAll, List.all_cons, Bool.and_eq_true] at h
    rw [List.cons_append, nmC_cons, if_pos (by simp only [h.1, Bool.and_true]), nmC_app ht l (by simp only [nmAll, h.2])]
    rfl
theorem nmN_app {t : List Nat} (ht : nmC t = 0) (c : Nat) (l : List Nat) (h : nmAll (c :: l) = true) (hs : isStart ⟨#[c]⟩ = true) : nmN (c :: l ++ t) = l.length + 1 := by
  have hc : ((⟨#[c]⟩ : Str) == Str.ofString ":") = false := by
    simp only [nmAll, List.all_cons, Bool.and_eq_true, bne_iff_ne] at h
    simp [h.1.1]
  show (if ((⟨#[c]⟩ : Str) == Str.ofString ":") || !isStart ⟨#[c]⟩ then 0 else nmC (c :: (l ++ t))) = _
  rw [hc, hs, if_neg (by decide)]
  exact nmC_app ht (c :: l) h
theorem colon_nmC (t : List Nat) : nmC (58 :: t) = 0 := by rw [nmC_cons, if_neg (by decide +kernel)]
/-- a name without a colon -/
theorem qual_plain {t : List Nat} (h : Tl t) (c : Nat) (l : List Nat) (hl : nmAll (c :: l) = true) (hs : isStart ⟨#[c]⟩ = true) : qual (c :: l ++ t) = .ok (txt (c :: l)) (l.length + 1) := by
  unfold qual
  rw [nmN_app h.nmC c l hl hs]
  have e1 : (c :: l ++ t).drop (l.length + 1) = t := List.drop_left' (by simp)
  have e2 : (c :: l ++ t).take (l.length + 1) = c :: l := List.take_left' (by simp)
  rw [e1, e2, if_pos]
  have := h.ne (Str.ofString ":") (by decide +kernel) (by decide +kernel) (by decide +kernel)
  simp [bne, this]
theorem txt_ne (c : Nat) (l : List Nat) : (txt (c :: l) == Str.ofString "") = false := by
  have : txt (c :: l) ≠ Str.ofString "" := fun q => by
    have h := congrArg (fun s => s.cps.size) q
    have e : (Str.ofString "").cps.size = 0 := by decide +kernel
    simp [txt, e] at h
  simp [this]
/-- a name, a colon, a name -/
theorem qual_two {t : List Nat} (h : Tl t) (c : Nat) (l : List Nat) (d : Nat) (l2 : List Nat) (hl : nmAll (c :: l) = true) (hs : isStart ⟨#[c]⟩ = true) (hl2 : nmAll (d :: l2) = true) (hs2 : isStart ⟨#[d]⟩ = true) (hd : ((⟨#[d]⟩ : Str) == Str.ofString "*") = false) :
    qual (c :: l ++ 58 :: (d :: l2 ++ t)) = .ok (txt (c :: l) ++ Str.ofString ":" ++ txt (d :: l2)) (l.length + 1 + 1 + (l2.length + 1)) := by
  have hcd : ((⟨#[d]⟩ : Str) == Str.ofString ":") = false := by
    simp only [nmAll, List.all_cons, Bool.and_eq_true, bne_iff_ne] at hl2
    simp [hl2.1.1]
  unfold qual
  rw [nmN_app (colon_nmC _) c l hl hs]
  have e1 : (c :: l ++ 58 :: (d :: l2 ++ t)).drop (l.length + 1) = 58 :: (d :: l2 ++ t) := List.drop_left' (by simp)
  have e2 : (c :: l ++ 58 :: (d :: l2 ++ t)).take (l.length + 1) = c :: l := List.take_left' (by simp)
  rw [e1, e2, txt_ne, List.tail_cons, nmN_app h.nmC d l2 hl2 hs2]
  have e3 : (d :: l2 ++ t).take (l2.length + 1) = d :: l2 := List.take_left' (by simp)
  rw [e3, txt_ne]
  have e4 : (sgn (58 :: (d :: l2 ++ t)) != Str.ofString ":") = false := show ((⟨#[58]⟩ : Str) != Str.ofString ":") = false by decide +kernel
  have e5 : sgn (d :: l2 ++ t) = ⟨#[d]⟩ := rfl
  rw [e4, e5, hcd, hd]
  simp
/-- a name, a colon, a star -/
theorem qual_star (t : List Nat) (c : Nat) (l : List Nat) (hl : nmAll (c :: l) = true) (hs : isStart ⟨#[c]⟩ = true) :
    qual (c :: l ++ 58 :: 42 :: t) = .ok (txt (c :: l) ++ Str.ofString ":*") (l.length + 1 + 1 + 1) := by
  unfold qual
  rw [nmN_app (colon_nmC _) c l hl hs]
  have e1 : (c :: l ++ 58 :: 42 :: t).drop (l.length + 1) = 58 :: 42 :: t := List.drop_left' (by simp)
  have e2 : (c :: l ++ 58 :: 42 :: t).take (l.length + 1) = c :: l := List.take_left' (by simp)
  rw [e1, e2, txt_ne, List.tail_cons]
  have e4 : (sgn (58 :: 42 :: t) != Str.ofString ":") = false := show ((⟨#[58]⟩ : Str) != Str.ofString ":") = false by decide +kernel
  have e5 : (sgn (42 :: t) == Str.ofString ":") = false := show ((⟨#[42]⟩ : Str) == Str.ofString ":") = false by decide +kernel
  have e6 : (sgn (42 :: t) == Str.ofString "*") = true := show ((⟨#[42]⟩ : Str) == Str.ofString "*") = true by decide +kernel
  rw [e4, e5, e6]
  simp
/-- a name, a colon, nothing -/
theorem qual_bad {t : List Nat} (h : Tl t) (c : Nat) (l : List Nat) (hl : nmAll (c :: l) = true) (hs : isStart ⟨#[c]⟩ = true) :
    qual (c :: l ++ 58 :: t) = .bad (l.length + 1 + 1) := by
  unfold qual
  rw [nmN_app (colon_nmC _) c l hl hs]
  have e1 : (c :: l ++ 58 :: t).drop (l.length + 1) = 58 :: t := List.drop_left' (by simp)
  have e2 : (c :: l ++ 58 :: t).take (l.length + 1) = c :: l := List.take_left' (by simp)
  rw [e1, e2, txt_ne, List.tail_cons, h.nmN]
  have e4 : (sgn (58 :: t) != Str.ofString ":") = false := show ((⟨#[58]⟩ : Str) != Str.ofString ":") = false by decide +kernel
  have e7 : (txt (t.take 0) == Str.ofString "") = true := show (txt [] == Str.ofString "") = true by decide +kernel
  rw [e4, h.ne (Str.ofString ":") (by decide +kernel) (by decide +kernel) (by decide +kernel), h.ne (Str.ofString "*") (by decide +kernel) (by decide +kernel) (by decide +kernel), e7]
  simp
theorem qual_none {t : List Nat} (h : Tl t) : qual t = .ok (Str.ofString "") 0 := by
  unfold qual
  rw [h.nmN]
  have e7 : txt (t.take 0) = Str.ofString "" := show txt [] = Str.ofString "" by decide +kernel
  rw [e7, if_pos (by simp)]
theorem sgn_cons (c : Nat) (r : List Nat) : sgn (c :: r) = ⟨#[c]⟩ := rfl
/-- which way a step goes, by the first sign -/
theorem step_num (b : Bool) (n : Int) (c : Nat) (r : List Nat) (h : isFig ⟨#[c]⟩ = true) : stepO b n (c :: r) = numO (c :: r) := by
  unfold stepO
  rw [if_pos (by show (isFig ⟨#[c]⟩ || _) = true; rw [h]; rfl)]
theorem step_dotnum (b : Bool) (n : Int) (d : Nat) (r : List Nat) (h : isFig ⟨#[d]⟩ = true) : stepO b n (46 :: d :: r) = numO (46 :: d :: r) := by
  unfold stepO
  have e1 : (sgn (46 :: d :: r) == Str.ofString ".") = true := show ((⟨#[46]⟩ : Str) == Str.ofString ".") = true by decide +kernel
  have e2 : (sgn (46 :: d :: r).tail != Str.ofString "") = true := sgn_ne d r
  have e3 : isFig (sgn (46 :: d :: r).tail) = true := h
  rw [e1, e2, e3, if_pos (by simp)]
theorem no_num {c : Nat} {r : List Nat} (h : isFig ⟨#[c]⟩ = false) (hd : c ≠ 46 ∨ ((sgn r != Str.ofString "") && isFig (sgn r)) = false) : (isFig (sgn (c :: r)) || ((sgn (c :: r) == Str.ofString ".") && ((sgn (c :: r).tail != Str.ofString "") && isFig (sgn (c :: r).tail)))) = false := by
  have e1 : isFig (sgn (c :: r)) = false := h
  rw [e1]
  rcases hd with hd | hd
  · have e2 : (sgn (c :: r) == Str.ofString ".") = false := by
      have e : Str.ofString "." = ⟨#[46]⟩ := by decide +kernel
      show ((⟨#[c]⟩ : Str) == Str.ofString ".") = false
      rw [e, one_beq]; simp [hd]
    rw [e2]; rfl
  · have e3 : ((sgn (c :: r).tail != Str.ofString "") && isFig (sgn (c :: r).tail)) = false := hd
    rw [e3]; simp
theorem step_lit (b : Bool) (n : Int) (c : Nat) (r : List Nat) (h : isFig ⟨#[c]⟩ = false) (hd : c ≠ 46) (hq : [Str.ofString "'", Str.ofString "\""].any (fun x => x == (⟨#[c]⟩ : Str)) = true) : stepO b n (c :: r) = litO (c :: r) := by
  unfold stepO
  rw [no_num h (.inl hd), if_neg (by decide), sgn_cons, if_pos (show [Str.ofString "'", Str.ofString "\""].any (fun x => x == (⟨#[c]⟩ : Str)) = true from hq)]
theorem no_lit {c : Nat} (hq : [Str.ofString "'", Str.ofString "\""].any (fun x => x == (⟨#[c]⟩ : Str)) = false) : ¬ [Str.ofString "'", Str.ofString "\""].any (fun x => x == (⟨#[c]⟩ : Str)) = true := by
  show ¬ [Str.ofString "'", Str.ofString "\""].any (fun x => x == (⟨#[c]⟩ : Str)) = true
  rw [hq]; decide
theorem step_var (b : Bool) (n : Int) (r : List Nat) : stepO b n (36 :: r) = varO n (36 :: r) := by
  unfold stepO
  rw [no_num (by decide +kernel) (.inl (by decide)), if_neg (by decide), sgn_cons, if_neg (no_lit (by decide +kernel)), if_pos (show ((⟨#[36]⟩ : Str) == Str.ofString "$") = true by decide +kernel)]
theorem step_star (b : Bool) (n : Int) (r : List Nat) : stepO b n (42 :: r) = .word (if b then Str.ofString "operator" else Str.ofString "name") (Str.ofString "*") 1 := by
  unfold stepO
  rw [no_num (by decide +kernel) (.inl (by decide)), if_neg (by decide), sgn_cons, if_neg (no_lit (by decide +kernel)), if_neg (show ¬ ((⟨#[42]⟩ : Str) == Str.ofString "$") = true by decide +kernel), if_pos (show ((⟨#[42]⟩ : Str) == Str.ofString "*") = true by decide +kernel)]
theorem step_name (b : Bool) (n : Int) (c : Nat) (r : List Nat) (h : (!isFig ⟨#[c]⟩ && c != 46 && !([Str.ofString "'", Str.ofString "\""].any (fun x => x == (⟨#[c]⟩ : Str))) && !((⟨#[c]⟩ : Str) == Str.ofString "$") && !((⟨#[c]⟩ : Str) == Str.ofString "*") && isStart ⟨#[c]⟩ && ((⟨#[c]⟩ : Str) != Str.ofString ":")) = true) : stepO b n (c :: r) = nameO b n (c :: r) := by
  simp only [Bool.and_eq_true, Bool.not_eq_true', bne_iff_ne] at h
  obtain ⟨⟨⟨⟨⟨⟨h1, h2⟩, h3⟩, h4⟩, h5⟩, h6⟩, h7⟩ := h
  unfold stepO
  rw [no_num h1 (.inl h2), if_neg (by decide), sgn_cons, if_neg (no_lit h3), if_neg (show ¬ ((⟨#[c]⟩ : Str) == Str.ofString "$") = true by rw [h4]; decide), if_neg (show ¬ ((⟨#[c]⟩ : Str) == Str.ofString "*") = true by rw [h5]; decide), if_pos (show (isStart ⟨#[c]⟩ && ((⟨#[c]⟩ : Str) != Str.ofString ":")) = true by simp [h6, h7])]
theorem step_mark (b : Bool) (n : Int) (c : Nat) (r : List Nat) (h : (!isFig ⟨#[c]⟩ && !([Str.ofString "'", Str.ofString "\""].any (fun x => x == (⟨#[c]⟩ : Str))) && !((⟨#[c]⟩ : Str) == Str.ofString "$") && !((⟨#[c]⟩ : Str) == Str.ofString "*") && !(isStart ⟨#[c]⟩ && ((⟨#[c]⟩ : Str) != Str.ofString ":"))) = true) (hd : c ≠ 46 ∨ ((sgn r != Str.ofString "") && isFig (sgn r)) = false) : stepO b n (c :: r) = markO n (c :: r) := by
  simp only [Bool.and_eq_true, Bool.not_eq_true'] at h
  obtain ⟨⟨⟨⟨h1, h3⟩, h4⟩, h5⟩, h6⟩ := h
  unfold stepO
  rw [no_num h1 hd, if_neg (by decide), sgn_cons, if_neg (no_lit h3), if_neg (show ¬ ((⟨#[c]⟩ : Str) == Str.ofString "$") = true by rw [h4]; decide), if_neg (show ¬ ((⟨#[c]⟩ : Str) == Str.ofString "*") = true by rw [h5]; decide), if_neg (show ¬ (isStart ⟨#[c]⟩ && ((⟨#[c]⟩ : Str) != Str.ofString ":")) = true by rw [h6]; decide)]

-- L1
/-- a word of the menu -/
def IsW (wd : Wd) (W : Str) : Prop := (wd, W) ∈ othersL ∨ ∃ op bad star kind, wd = .nm W op bad star kind ∧ (W, op, bad, star, kind) ∈ namesL
/-- what stands behind a word, and the word that the law takes for the next -/
structure Fol (f : Str) (t : List Nat) : Prop where
  tl : Tl t
  op : (sgn (t.drop (spN t)) == Str.ofString "(") = (f == Str.ofString "(")
  ax : ((sgn (t.drop (spN t)) == Str.ofString ":") && (sgn (t.drop (spN t)).tail == Str.ofString ":")) = (f == Str.ofString "::")
theorem len_cds (W : Str) : (cds W).length = W.length := Array.length_toList
theorem txt_cds (W : Str) : txt (cds W) = W := by
  show (⟨W.cps.toList.toArray⟩ : Str) = W
  rw [Array.toArray_toList]
/-- what a step does at a word of the menu -/
def StepIs (wd : Wd) (W : Str) (b : Bool) (n : Int) (f : Str) (t : List Nat) (o : Out) : Prop :=
  (∃ m, rowL wd b n f = .inl m ∧ o = .fault m) ∨ ∃ kind text k, rowL wd b n f = .inr (kind, text, n) ∧ o = .word kind text k ∧ (k = W.length ∨ k = W.length + spN t) ∧ behF kind W = behF kind text
theorem rowL_nm (W : Str) (op bad star kind b : Bool) (n : Int) (f : Str) : rowL (.nm W op bad star kind) b n f =
    (if b then (if op then .inr (Str.ofString "operator", W, n) else .inl (Str.ofString "an operator is missing at " ++ Str.ofString (toString n)))
    else if bad then .inl (Str.ofString "a name is missing behind a colon at " ++ Str.ofString (toString (n + 2)))
    else if (f == Str.ofString "(") && !star then .inr (if kind then Str.ofString "kind" else Str.ofString "function", W, n)
    else .inr (if f == Str.ofString "::" then Str.ofString "axis" else Str.ofString "name", W, n)) := rfl
theorem ok_eq {a b : Str} {j k : Nat} (h : a = b) (hk : j = k) : Qual.ok a j = Qual.ok b k := by rw [h, hk]
theorem name_w {W : Str} {t : List Nat} {f : Str} {op bad star kind : Bool} (b : Bool) (n : Int) (F : Fol f t)
    (hq : qual (cds W ++ t) = if bad then .bad 2 else .ok W W.length)
    (ho : ([Str.ofString "and", Str.ofString "or", Str.ofString "mod", Str.ofString "div"].any fun x => x == txt ((cds W ++ t).take (nmN (cds W ++ t)))) = op)
    (ho2 : op = true → nmN (cds W ++ t) = W.length)
    (hs : Txt.endswith W (Str.ofString "*") = star) (hk : ([Str.ofString "comment", Str.ofString "text", Str.ofString "processing-instruction", Str.ofString "node"].any fun x => x == W) = kind) :
    StepIs (.nm W op bad star kind) W b n f t (nameO b n (cds W ++ t)) := by
  have hd : (cds W ++ t).drop W.length = t := List.drop_left' (len_cds W)
  have htk : txt ((cds W ++ t).take W.length) = W := by rw [List.take_left' (len_cds W), txt_cds]
  cases b with
  | true =>
    cases op with
    | true =>
      have e := ho2 rfl
      rw [e, htk] at ho
      refine .inr ⟨Str.ofString "operator", W, W.length, rfl, ?_, .inl rfl, rfl⟩
      unfold nameO
      rw [if_pos rfl, e, htk, ho, if_pos rfl]
    | false =>
      refine .inl ⟨_, rfl, ?_⟩
      unfold nameO
      rw [if_pos rfl, ho, if_neg (by decide)]
  | false =>
    cases bad with
    | true =>
      refine .inl ⟨_, rfl, ?_⟩
      unfold nameO
      rw [if_neg (by decide), hq]
      rfl
    | false =>
      rw [if_neg (by decide)] at hq
      have e : nameO false n (cds W ++ t) = (if (f == Str.ofString "(") && !star then .word (if kind then Str.ofString "kind" else Str.ofString "function") W (W.length + spN t) else if f == Str.ofString "::" then .word (Str.ofString "axis") W (W.length + spN t) else .word (Str.ofString "name") W W.length) := by
        unfold nameO
        rw [if_neg (by decide), hq]
        dsimp only
        rw [hd, F.op, F.ax, hs, hk]
      rw [e]
      by_cases h1 : ((f == Str.ofString "(") && !star) = true
      · refine .inr ⟨if kind then Str.ofString "kind" else Str.ofString "function", W, W.length + spN t, ?_, ?_, .inr rfl, rfl⟩
        · rw [rowL_nm, if_neg (by decide), if_neg (by decide), if_pos h1]
        · rw [if_pos h1]
      · by_cases h2 : (f == Str.ofString "::") = true
        · refine .inr ⟨Str.ofString "axis", W, W.length + spN t, ?_, ?_, .inr rfl, rfl⟩
          · rw [rowL_nm, if_neg (by decide), if_neg (by decide), if_neg h1, if_pos h2]
          · rw [if_neg h1, if_pos h2]
        · refine .inr ⟨Str.ofString "name", W, W.length, ?_, ?_, .inl rfl, rfl⟩
          · rw [rowL_nm, if_neg (by decide), if_neg (by decide), if_neg h1, if_neg h2]
          · rw [if_neg h1, if_neg h2]
theorem nm_start {W : Str} {t : List Nat} {c : Nat} {l : List Nat} {wd : Wd} {b : Bool} {n : Int} {f : Str} (hW : cds W = c :: l)
    (hc : (!isFig ⟨#[c]⟩ && c != 46 && !([Str.ofString "'", Str.ofString "\""].any (fun x => x == (⟨#[c]⟩ : Str))) && !((⟨#[c]⟩ : Str) == Str.ofString "$") && !((⟨#[c]⟩ : Str) == Str.ofString "*") && isStart ⟨#[c]⟩ && ((⟨#[c]⟩ : Str) != Str.ofString ":")) = true)
    (h : StepIs wd W b n f t (nameO b n (cds W ++ t))) : StepIs wd W b n f t (stepO b n (cds W ++ t)) := by
  rw [hW, List.cons_append] at h ⊢
  rw [step_name b n c (l ++ t) hc]
  exact h
theorem nm_plain {W : Str} {t : List Nat} {f : Str} {op star kind : Bool} (b : Bool) (n : Int) (F : Fol f t) (c : Nat) (l : List Nat) (hW : cds W = c :: l) (hn : nmAll (c :: l) = true) (hst : isStart ⟨#[c]⟩ = true)
    (hc : (!isFig ⟨#[c]⟩ && c != 46 && !([Str.ofString "'", Str.ofString "\""].any (fun x => x == (⟨#[c]⟩ : Str))) && !((⟨#[c]⟩ : Str) == Str.ofString "$") && !((⟨#[c]⟩ : Str) == Str.ofString "*") && isStart ⟨#[c]⟩ && ((⟨#[c]⟩ : Str) != Str.ofString ":")) = true)
    (ho : ([Str.ofString "and", Str.ofString "or", Str.ofString "mod", Str.ofString "div"].any fun x => x == W) = op)
    (hs : Txt.endswith W (Str.ofString "*") = star) (hk : ([Str.ofString "comment", Str.ofString "text", Str.ofString "processing-instruction", Str.ofString "node"].any fun x => x == W) = kind) :
    StepIs (.nm W op false star kind) W b n f t (stepO b n (cds W ++ t)) := by
  have hl : l.length + 1 = W.length := by rw [← len_cds, hW]; rfl
  have hnm : nmN (cds W ++ t) = W.length := by rw [hW, nmN_app F.tl.nmC c l hn hst, hl]
  refine nm_start hW hc (name_w b n F ?_ ?_ (fun _ => hnm) hs hk)
  · rw [if_neg (by decide), hW, qual_plain F.tl c l hn hst, ← hW, txt_cds, hl]
  · rw [hnm, List.take_left' (len_cds W), txt_cds]; exact ho
theorem step_nm {W : Str} {t : List Nat} {f : Str} {op bad star kind : Bool} (hm : (W, op, bad, star, kind) ∈ namesL) (b : Bool) (n : Int) (F : Fol f t) : StepIs (.nm W op bad star kind) W b n f t (stepO b n (cds W ++ t)) := by
  simp only [namesL, List.mem_cons, Prod.mk.injEq, List.not_mem_nil, or_false] at hm
  rcases hm with ⟨rfl, rfl, rfl, rfl, rfl⟩ | ⟨rfl, rfl, rfl, rfl, rfl⟩ | ⟨rfl, rfl, rfl, rfl, rfl⟩ | ⟨rfl, rfl, rfl, rfl, rfl⟩ | ⟨rfl, rfl, rfl, rfl, rfl⟩ | ⟨rfl, rfl, rfl, rfl, rfl⟩ | ⟨rfl, rfl, rfl, rfl, rfl⟩ | ⟨rfl, rfl, rfl, rfl, rfl⟩ | ⟨rfl, rfl, rfl, rfl, rfl⟩ | ⟨rfl, rfl, rfl, rfl, rfl⟩ | ⟨rfl, rfl, rfl, rfl, rfl⟩ | ⟨rfl, rfl, rfl, rfl, rfl⟩ | ⟨rfl, rfl, rfl, rfl, rfl⟩
  · exact nm_plain b n F 97 [] (by decide +kernel) (by decide +kernel) (by decide +kernel) (by decide +kernel) (by decide +kernel) (by decide +kernel) (by decide +kernel)
  · exact nm_plain b n F 100 [105, 118] (by decide +kernel) (by decide +kernel) (by decide +kernel) (by decide +kernel) (by decide +kernel) (by decide +kernel) (by decide +kernel)
  · exact nm_plain b n F 97 [110, 100] (by decide +kernel) (by decide +kernel) (by decide +kernel) (by decide +kernel) (by decide +kernel) (by decide +kernel) (by decide +kernel)
  · exact nm_plain b n F 109 [111, 100] (by decide +kernel) (by decide +kernel) (by decide +kernel) (by decide +kernel) (by decide +kernel) (by decide +kernel) (by decide +kernel)
  · exact nm_plain b n F 111 [114] (by decide +kernel) (by decide +kernel) (by decide +kernel) (by decide +kernel) (by decide +kernel) (by decide +kernel) (by decide +kernel)
  · exact nm_plain b n F 116 [101, 120, 116] (by decide +kernel) (by decide +kernel) (by decide +kernel) (by decide +kernel) (by decide +kernel) (by decide +kernel) (by decide +kernel)
  · exact nm_plain b n F 110 [111, 100, 101] (by decide +kernel) (by decide +kernel) (by decide +kernel) (by decide +kernel) (by decide +kernel) (by decide +kernel) (by decide +kernel)
  · exact nm_plain b n F 115 [101, 108, 102] (by decide +kernel) (by decide +kernel) (by decide +kernel) (by decide +kernel) (by decide +kernel) (by decide +kernel) (by decide +kernel)
  · have hW : cds (Str.ofString "p:b") = 112 :: 58 :: [98] := by decide +kernel
    have hnm : nmN (cds (Str.ofString "p:b") ++ t) = 1 := by rw [hW]; exact nmN_app (t := 58 :: 98 :: t) (colon_nmC _) 112 [] (by decide +kernel) (by decide +kernel)
    refine nm_start hW (by decide +kernel) (name_w b n F ?_ ?_ (fun h => nomatch h) (by decide +kernel) (by decide +kernel))
    · rw [if_neg (by decide), hW]
      refine (qual_two F.tl 112 [] 98 [] (by decide +kernel) (by decide +kernel) (by decide +kernel) (by decide +kernel) (by decide +kernel)).trans (ok_eq (by decide +kernel) (by decide +kernel))
    · rw [hnm, hW]; show ([Str.ofString "and", Str.ofString "or", Str.ofString "mod", Str.ofString "div"].any fun x => x == txt [112]) = _; decide +kernel
  · have hW : cds (Str.ofString "p:*") = 112 :: 58 :: [42] := by decide +kernel
    have hnm : nmN (cds (Str.ofString "p:*") ++ t) = 1 := by rw [hW]; exact nmN_app (t := 58 :: 42 :: t) (colon_nmC _) 112 [] (by decide +kernel) (by decide +kernel)
    refine nm_start hW (by decide +kernel) (name_w b n F ?_ ?_ (fun h => nomatch h) (by decide +kernel) (by decide +kernel))
    · rw [if_neg (by decide), hW]
      refine (qual_star t 112 [] (by decide +kernel) (by decide +kernel)).trans (ok_eq (by decide +kernel) (by decide +kernel))
    · rw [hnm, hW]; show ([Str.ofString "and", Str.ofString "or", Str.ofString "mod", Str.ofString "div"].any fun x => x == txt [112]) = _; decide +kernel
  · exact nm_plain b n F 97 [45, 98, 46, 99] (by decide +kernel) (by decide +kernel) (by decide +kernel) (by decide +kernel) (by decide +kernel) (by decide +kernel) (by decide +kernel)
  · exact nm_plain b n F 95 [120] (by decide +kernel) (by decide +kernel) (by decide +kernel) (by decide +kernel) (by decide +kernel) (by decide +kernel) (by decide +kernel)
  · have hW : cds (Str.ofString "p:") = 112 :: [58] := by decide +kernel
    have hnm : nmN (cds (Str.ofString "p:") ++ t) = 1 := by rw [hW]; exact nmN_app (t := 58 :: t) (colon_nmC _) 112 [] (by decide +kernel) (by decide +kernel)
    refine nm_start hW (by decide +kernel) (name_w b n F ?_ ?_ (fun h => nomatch h) (by decide +kernel) (by decide +kernel))
    · rw [if_pos rfl, hW]
      exact qual_bad F.tl 112 [] (by decide +kernel) (by decide +kernel)
    · rw [hnm, hW]; show ([Str.ofString "and", Str.ofString "or", Str.ofString "mod", Str.ofString "div"].any fun x => x == txt [112]) = _; decide +kernel

-- C5
theorem hk486 : True := by
  k_with_none
  exact True.intro
theorem hk483 : True := by
  k_with "mine k_all" => (assumption)
  exact True.intro
theorem hk484 : True := by
  k_with "mine call ref" => ((k_here; (k_dflt (show wpAny _ _ (call (Value.ref 294) _) _ _ _)); k_dflt (refine' useU (C := pick_c _ _ _ _ _ _ _ _ _ _ hp hq hq2 (by omega) (by omega) (by k_all)) (hp := ?_)); intro r' p' q' t' t1' t2' ep' hr0 hr1 hp hq hq2 h' tk' F' N'))
  exact True.intro
theorem hk485 : True := by
  k_with "mine call ref" => ((k_here; (k_dflt (show wpAny _ _ (call (Value.ref 301) [Value.ref _, Value.ref _]) _ _ _)); k_dflt (refine' use (one_c _ _ _ _ _ _ _ _ _ _ _ hp hq hq2 ?hl ?hl2 hb ?hne) ?k1 ?k2 ?k3 ?k4 ?k5 ?k6 ?kd ?ku ?_ ?he; (case k1 => k_asm); (case k2 => k_asm); (case k3 => k_asm); (case k4 => exact swap2 (by k_asm)); (case k5 => k_asm); (case k6 => first | exact rfl | assumption); (case kd => ktr_room); (case ku => ktr_units)); (case hl => exact Nat.le_of_ble_eq_true rfl); (case hl2 => exact Nat.le_of_ble_eq_true rfl); (case hne => k_ne); (case he => exact True.intro); intro i' v' p' q' t1' t2' ep' hv' hp hq hq2 h' tk' F' N'))
  exact True.intro
def menuW : List Str := namesL.map (·.1) ++ othersL.map (·.2)
theorem isW_of {W : Str} (h : W ∈ menuW) : ∃ wd, IsW wd W := by
  rcases List.mem_append.mp h with h | h
  · obtain ⟨⟨W', op, bad, star, kind⟩, hm, rfl⟩ := List.mem_map.mp h
    exact ⟨_, .inr ⟨op, bad, star, kind, rfl, hm⟩⟩
  · obtain ⟨⟨wd, W'⟩, hm, rfl⟩ := List.mem_map.mp h
    exact ⟨wd, .inl hm⟩
theorem word_end {bg : Addr} {rest : List (Addr × Obj)} {h₀ h' : Heap} {L : Addr} {m : Str → Option Value} {s : Shared} {Q : Value → Shared → Prop} {p' q' : Int} {t1 t2 : Tok} {ep' : Nat} {x : Addr × Obj} {tk i : Nat} {l : List Value} {v : Value}
    (hret : ∀ W t p' q' t1 t2 ep', W ∈ menuW → 0 ≤ p' → 0 ≤ q' → q' < 2147483647 → Ret h₀ L m s Q (.str W t) ((bg, listOf #[.int p' t1, .int q' t2] ep') :: rest))
    (F : Fr h₀ L h' m) (N : News h₀ L h' ((bg, listOf #[.int p' t1, .int q' t2] ep') :: x :: rest)) (hp : 0 ≤ p') (hq : 0 ≤ q') (hq2 : q' < 2147483647) (hv : l[i]? = some v) (H : ∀ v ∈ l, ∃ W t, v = .str W t ∧ W ∈ menuW) : Q v { s with heap := h', toks := tk } := by
  obtain ⟨W, t, rfl, hW⟩ := H v (List.mem_of_getElem? hv)
  exact hret W t _ _ _ _ _ hW hp hq hq2 h' tk F (fun p hp => by
    rcases List.mem_cons.mp hp with rfl | hp
    · exact N _ (.head _)
    · exact N _ (.tail _ (.tail _ hp)))
theorem word_c (w : World) (bg : Addr) (p q : Int) (tp tq : Tok) (ep : Nat) (rest : List (Addr × Obj)) (hp : 0 ≤ p) (hq : 0 ≤ q) (hq2 : q < 2147483647) (hb : ∀ x ∈ rest, x.1 ≠ bg) :
    Con w 3 120 334 [.ref bg] ((bg, listOf #[.int p tp, .int q tq] ep) :: rest)
      (fun R => ∀ W t p' q' t1 t2 ep', W ∈ menuW → 0 ≤ p' → 0 ≤ q' → q' < 2147483647 → R (.str W t) ((bg, listOf #[.int p' t1, .int q' t2] ep') :: rest)) (fun _ => True) := by
  (unfold Con; intro mean mg mb dp un gd cn cs a ccd cl outer A₀ base h₀ L m s Q E B F X N T hk hd hu hret hex)
  (refine wpAny_call ?_; k_dflt (refine' code_def ?k1 ?k2 ?k3 ?k4 ?k5 ?kA ?kF ?kK ?k6 ?k7 ?k8 ?k9 ?kB ?_ ?c2 ?c3 ?c4 ?c5; (case kA => exact rfl); (case kF => exact rfl); (case kK => assumption); (case k1 => k_asm); (case k2 => k_asm); (case k3 => k_asm); (case k4 => first | k_asm | exact drop1 (by k_asm) | exact drop2 (by k_asm)); (case k5 => k_asm); (case k6 => k_is); (case k7 => k_is); (case k8 => ktr_room); (case k9 => first | exact BindsTo.of_eq rfl | exact binds_K (by k_in) rfl (by k_is) rfl rfl rfl); (case c5 => decide); (case kB => exact locs rfl); (case c2 => exact rfl); (case c3 => exact rfl); (case c4 => exact rfl); k_whole; intro g' L' h' FG' F' N' B' X' T'; (try dsimp only); (try k_lift B'); (try k_fold)))
  k_steps
  · exact hret _ _ _ _ _ _ _ (by decide +kernel) hp hq hq2 _ _ (by k_asm) (by k_asm)
  all_goals (
    refine' word_end hret ?F ?N hp hq hq2 hv' ?H
    case F => k_asm
    case N => k_asm
    case H => (repeat' (first | exact List.forall_mem_nil _ | refine List.forall_mem_cons.mpr ⟨⟨_, _, rfl, by decide +kernel⟩, ?_⟩)))

-- L2
theorem is_word {wd : Wd} {W : Str} {b : Bool} {n : Int} {f : Str} {t : List Nat} {o : Out} {kind text : Str} {k : Nat} (h1 : rowL wd b n f = .inr (kind, text, n)) (h2 : o = .word kind text k) (h3 : k = W.length) (h4 : behF kind W = behF kind text) : StepIs wd W b n f t o := .inr ⟨kind, text, k, h1, h2, .inl h3, h4⟩
theorem is_fault {wd : Wd} {W : Str} {b : Bool} {n : Int} {f : Str} {t : List Nat} {o : Out} {m : Str} (h1 : rowL wd b n f = .inl m) (h2 : o = .fault m) : StepIs wd W b n f t o := .inl ⟨m, h1, h2⟩
theorem one_cat (c d : Nat) : (⟨#[c]⟩ : Str) ++ (⟨#[d]⟩ : Str) = ⟨#[c, d]⟩ := rfl
theorem mark_one {W : Str} {t : List Nat} (c : Nat) (hW : cds W = [c]) (ht : Tl t) (h0 : ([Str.ofString "//", Str.ofString "!=", Str.ofString "<=", Str.ofString ">=", Str.ofString "..", Str.ofString "::"].any fun x => x == (⟨#[c]⟩ : Str) ++ Str.ofString "") = false) (h1 : ([Str.ofString "//", Str.ofString "!=", Str.ofString "<=", Str.ofString ">=", Str.ofString "..", Str.ofString "::"].any fun x => x == (⟨#[c]⟩ : Str) ++ Str.ofString " ") = false) (h2 : ([Str.ofString "//", Str.ofString "!=", Str.ofString "<=", Str.ofString ">=", Str.ofString "..", Str.ofString "::"].any fun x => x == (⟨#[c]⟩ : Str) ++ Str.ofString "\n") = false) : markT (cds W ++ t) = W := by
  have hw : (⟨#[c]⟩ : Str) = W := by rw [← txt_cds W, hW]; rfl
  rw [hW]
  show (if ([Str.ofString "//", Str.ofString "!=", Str.ofString "<=", Str.ofString ">=", Str.ofString "..", Str.ofString "::"].any fun x => x == (⟨#[c]⟩ : Str) ++ sgn t) = true then (⟨#[c]⟩ : Str) ++ sgn t else (⟨#[c]⟩ : Str)) = W
  have e : ([Str.ofString "//", Str.ofString "!=", Str.ofString "<=", Str.ofString ">=", Str.ofString "..", Str.ofString "::"].any fun x => x == (⟨#[c]⟩ : Str) ++ sgn t) = false := by
    rcases ht.sgn with e | e | e <;> rw [e] <;> assumption
  rw [e, if_neg (by decide), hw]
theorem mark_two {W : Str} {t : List Nat} (c d : Nat) (hW : cds W = [c, d]) (h0 : ([Str.ofString "//", Str.ofString "!=", Str.ofString "<=", Str.ofString ">=", Str.ofString "..", Str.ofString "::"].any fun x => x == (⟨#[c, d]⟩ : Str)) = true) : markT (cds W ++ t) = W := by
  have hw : (⟨#[c, d]⟩ : Str) = W := by rw [← txt_cds W, hW]; rfl
  rw [hW]
  show (if ([Str.ofString "//", Str.ofString "!=", Str.ofString "<=", Str.ofString ">=", Str.ofString "..", Str.ofString "::"].any fun x => x == (⟨#[c]⟩ : Str) ++ (⟨#[d]⟩ : Str)) = true then (⟨#[c]⟩ : Str) ++ (⟨#[d]⟩ : Str) else (⟨#[c]⟩ : Str)) = W
  rw [one_cat, h0, if_pos rfl, hw]
theorem mark_op {W : Str} {r : List Nat} {n : Int} (hT : markT r = W) (h : ([Str.ofString "/", Str.ofString "//", Str.ofString "|", Str.ofString "+", Str.ofString "-", Str.ofString "=", Str.ofString "!=", Str.ofString "<", Str.ofString "<=", Str.ofString ">", Str.ofString ">="].any fun x => x == W) = true) : markO n r = .word (Str.ofString "operator") W W.length := by
  unfold markO; rw [hT, h, if_pos rfl]
theorem mark_sg {W : Str} {r : List Nat} {n : Int} (hT : markT r = W) (h : ([Str.ofString "/", Str.ofString "//", Str.ofString "|", Str.ofString "+", Str.ofString "-", Str.ofString "=", Str.ofString "!=", Str.ofString "<", Str.ofString "<=", Str.ofString ">", Str.ofString ">="].any fun x => x == W) = false) (h2 : ([Str.ofString "(", Str.ofString ")", Str.ofString "[", Str.ofString "]", Str.ofString ".", Str.ofString "..", Str.ofString "@", Str.ofString ",", Str.ofString "::"].any fun x => x == W) = true) : markO n r = .word (Str.ofString "sign") W W.length := by
  unfold markO; rw [hT, h, h2, if_neg (by decide), if_pos rfl]
theorem mark_no {W : Str} {r : List Nat} {n : Int} (hT : markT r = W) (h : ([Str.ofString "/", Str.ofString "//", Str.ofString "|", Str.ofString "+", Str.ofString "-", Str.ofString "=", Str.ofString "!=", Str.ofString "<", Str.ofString "<=", Str.ofString ">", Str.ofString ">="].any fun x => x == W) = false) (h2 : ([Str.ofString "(", Str.ofString ")", Str.ofString "[", Str.ofString "]", Str.ofString ".", Str.ofString "..", Str.ofString "@", Str.ofString ",", Str.ofString "::"].any fun x => x == W) = false) : markO n r = .fault (Str.ofString "a strange sign at " ++ Str.ofString (toString n)) := by
  unfold markO; rw [hT, h, h2, if_neg (by decide), if_neg (by decide)]
theorem step_mk {W : Str} {t : List Nat} {o : Out} (b : Bool) (n : Int) (c : Nat) (l : List Nat) (hW : cds W = c :: l) (h : (!isFig ⟨#[c]⟩ && !([Str.ofString "'", Str.ofString "\""].any (fun x => x == (⟨#[c]⟩ : Str))) && !((⟨#[c]⟩ : Str) == Str.ofString "$") && !((⟨#[c]⟩ : Str) == Str.ofString "*") && !(isStart ⟨#[c]⟩ && ((⟨#[c]⟩ : Str) != Str.ofString ":"))) = true) (hd : c ≠ 46 ∨ ((sgn (l ++ t) != Str.ofString "") && isFig (sgn (l ++ t))) = false) (ho : markO n (cds W ++ t) = o) : stepO b n (cds W ++ t) = o := by
  rw [hW, List.cons_append] at ho ⊢
  rw [step_mark b n c (l ++ t) h hd, ho]
theorem Tl.noFig {t : List Nat} (h : Tl t) : ((Mine.sgn t != Str.ofString "") && isFig (Mine.sgn t)) = false := by
  rcases h.sgn with e | e | e <;> rw [e] <;> decide +kernel
theorem var_w {W : Str} {r : List Nat} (b : Bool) (n : Int) (l : List Nat) {t : List Nat} (hW : cds W = 36 :: l) : stepO b n (cds W ++ t) = varO n (36 :: (l ++ t)) := by
  rw [hW, List.cons_append, step_var]
theorem var_ok {l : List Nat} {n : Int} {name v : Str} {k : Nat} (hq : qual l = .ok name k) (h1 : (name == Str.ofString "") = false) (h2 : Txt.endswith name (Str.ofString "*") = false) (h3 : name = v) : varO n (36 :: l) = .word (Str.ofString "variable") v (1 + k) := by
  unfold varO
  rw [List.tail_cons, hq]
  dsimp only
  rw [h1, h2, if_neg (by decide), h3]
theorem var_no {l : List Nat} {n : Int} {name : Str} {k : Nat} (hq : qual l = .ok name k) (h1 : ((name == Str.ofString "") || Txt.endswith name (Str.ofString "*")) = true) : varO n (36 :: l) = .fault (Str.ofString "a variable has no name at " ++ Str.ofString (toString n)) := by
  unfold varO
  rw [List.tail_cons, hq]
  dsimp only
  rw [h1, if_pos rfl]
theorem num_plain {W : Str} {t : List Nat} (h : Tl t) (c : Nat) (hW : cds W = [c]) (hc : isFig ⟨#[c]⟩ = true) : numO (cds W ++ t) = .word (Str.ofString "number") W W.length := by
  have hl : W.length = 1 := by rw [← len_cds, hW]; rfl
  have e : numN (cds W ++ t) = W.length := by
    rw [hW, hl]
    unfold numN
    have e1 : figN ([c] ++ t) = 1 := by rw [List.cons_append, figN_cons, if_pos hc, List.nil_append, h.fig]
    rw [e1]
    have e2 : ([c] ++ t).drop 1 = t := rfl
    rw [e2, h.ne (Str.ofString ".") (by decide +kernel) (by decide +kernel) (by decide +kernel)]
    rfl
  unfold numO
  rw [e, List.take_left' (len_cds W), txt_cds]
theorem num_three {W : Str} {t : List Nat} (h : Tl t) (c d : Nat) (hW : cds W = [c, 46, d]) (hc : isFig ⟨#[c]⟩ = true) (hd : isFig ⟨#[d]⟩ = true) (hd2 : ((⟨#[d]⟩ : Str) != Str.ofString ".") = true) : numO (cds W ++ t) = .word (Str.ofString "number") W W.length := by
  have hl : W.length = 3 := by rw [← len_cds, hW]; rfl
  have e : numN (cds W ++ t) = W.length := by
    rw [hW, hl]
    unfold numN
    have e1 : figN ([c, 46, d] ++ t) = 1 := by rw [List.cons_append, figN_cons, if_pos hc, List.cons_append, figN_cons, if_neg (by decide +kernel)]
    rw [e1]
    have e2 : ([c, 46, d] ++ t).drop 1 = 46 :: d :: t := rfl
    have e3 : figN (d :: t) = 1 := by rw [figN_cons, if_pos hd, h.fig]
    have e4 : (sgn (46 :: d :: t) == Str.ofString ".") = true := show ((⟨#[46]⟩ : Str) == Str.ofString ".") = true by decide +kernel
    rw [e2, List.tail_cons, e3, e4, sgn_cons, hd2]
    rfl
  unfold numO
  rw [e, List.take_left' (len_cds W), txt_cds]
theorem num_dot {W : Str} {t : List Nat} (h : Tl t) (d : Nat) (hW : cds W = [46, d]) (hd : isFig ⟨#[d]⟩ = true) (hd2 : ((⟨#[d]⟩ : Str) != Str.ofString ".") = true) : numO (cds W ++ t) = .word (Str.ofString "number") W W.length := by
  have hl : W.length = 2 := by rw [← len_cds, hW]; rfl
  have e : numN (cds W ++ t) = W.length := by
    rw [hW, hl]
    unfold numN
    have e1 : figN ([46, d] ++ t) = 0 := by rw [List.cons_append, figN_cons, if_neg (by decide +kernel)]
    rw [e1]
    have e2 : ([46, d] ++ t).drop 0 = 46 :: d :: t := rfl
    have e3 : figN (d :: t) = 1 := by rw [figN_cons, if_pos hd, h.fig]
    have e4 : (sgn (46 :: d :: t) == Str.ofString ".") = true := show ((⟨#[46]⟩ : Str) == Str.ofString ".") = true by decide +kernel
    rw [e2, List.tail_cons, e3, e4, sgn_cons, hd2]
    rfl
  unfold numO
  rw [e, List.take_left' (len_cds W), txt_cds]
theorem num_end {W : Str} {t : List Nat} (h : Tl t) (c : Nat) (hW : cds W = [c, 46]) (hc : isFig ⟨#[c]⟩ = true) : numO (cds W ++ t) = .word (Str.ofString "number") W W.length := by
  have hl : W.length = 2 := by rw [← len_cds, hW]; rfl
  have e : numN (cds W ++ t) = W.length := by
    rw [hW, hl]
    unfold numN
    have e1 : figN ([c, 46] ++ t) = 1 := by rw [List.cons_append, figN_cons, if_pos hc, List.cons_append, figN_cons, if_neg (by decide +kernel)]
    rw [e1]
    have e2 : ([c, 46] ++ t).drop 1 = 46 :: t := rfl
    have e4 : (sgn (46 :: t) == Str.ofString ".") = true := show ((⟨#[46]⟩ : Str) == Str.ofString ".") = true by decide +kernel
    have e5 : (sgn t != Str.ofString ".") = true := by rw [bne, h.ne (Str.ofString ".") (by decide +kernel) (by decide +kernel) (by decide +kernel)]; rfl
    rw [e2, List.tail_cons, h.fig, e4, e5]
    rfl
  unfold numO
  rw [e, List.take_left' (len_cds W), txt_cds]
theorem num_step {W : Str} {t : List Nat} (b : Bool) (n : Int) (c : Nat) (l : List Nat) (hW : cds W = c :: l) (hc : isFig ⟨#[c]⟩ = true) : stepO b n (cds W ++ t) = numO (cds W ++ t) := by
  rw [hW, List.cons_append, step_num b n c (l ++ t) hc]
theorem num_stepd {W : Str} {t : List Nat} (b : Bool) (n : Int) (d : Nat) (l : List Nat) (hW : cds W = 46 :: d :: l) (hd : isFig ⟨#[d]⟩ = true) : stepO b n (cds W ++ t) = numO (cds W ++ t) := by
  rw [hW, List.cons_append, List.cons_append, step_dotnum b n d (l ++ t) hd]
theorem lit_step {W v : Str} {t : List Nat} (b : Bool) (n : Int) (c : Nat) (l : List Nat) (hW : cds W = c :: (l ++ [c])) (hc : isFig ⟨#[c]⟩ = false) (hd : c ≠ 46) (hq : [Str.ofString "'", Str.ofString "\""].any (fun x => x == (⟨#[c]⟩ : Str)) = true) (hl : (l.all fun x => x != c) = true) (hv : txt l = v) : stepO b n (cds W ++ t) = .word (Str.ofString "literal") v W.length := by
  have hk : W.length = l.length + 2 := by rw [← len_cds, hW]; simp
  rw [hW, List.cons_append, step_lit b n c _ hc hd hq]
  have e : ((l ++ [c]) ++ t).takeWhile (· != c) = l := by
    rw [List.append_assoc, List.takeWhile_append_of_pos (fun x hx => List.all_eq_true.mp hl x hx)]
    simp
  show Out.word _ (txt (((l ++ [c]) ++ t).takeWhile (· != c))) ((((l ++ [c]) ++ t).takeWhile (· != c)).length + 2) = _
  rw [e, hv, hk]
theorem step_ot {wd : Wd} {W : Str} {t : List Nat} {f : Str} (hm : (wd, W) ∈ othersL) (b : Bool) (n : Int) (h : Tl t) : StepIs wd W b n f t (stepO b n (cds W ++ t)) := by
  simp only [othersL, List.mem_cons, Prod.mk.injEq, List.not_mem_nil, or_false] at hm
  rcases hm with ⟨rfl, rfl⟩ | ⟨rfl, rfl⟩ | ⟨rfl, rfl⟩ | ⟨rfl, rfl⟩ | ⟨rfl, rfl⟩ | ⟨rfl, rfl⟩ | ⟨rfl, rfl⟩ | ⟨rfl, rfl⟩ | ⟨rfl, rfl⟩ | ⟨rfl, rfl⟩ | ⟨rfl, rfl⟩ | ⟨rfl, rfl⟩ | ⟨rfl, rfl⟩ | ⟨rfl, rfl⟩ | ⟨rfl, rfl⟩ | ⟨rfl, rfl⟩ | ⟨rfl, rfl⟩ | ⟨rfl, rfl⟩ | ⟨rfl, rfl⟩ | ⟨rfl, rfl⟩ | ⟨rfl, rfl⟩ | ⟨rfl, rfl⟩ | ⟨rfl, rfl⟩ | ⟨rfl, rfl⟩ | ⟨rfl, rfl⟩ | ⟨rfl, rfl⟩ | ⟨rfl, rfl⟩ | ⟨rfl, rfl⟩ | ⟨rfl, rfl⟩ | ⟨rfl, rfl⟩ | ⟨rfl, rfl⟩ | ⟨rfl, rfl⟩ | ⟨rfl, rfl⟩ | ⟨rfl, rfl⟩ | ⟨rfl, rfl⟩
  · have hW : cds (Str.ofString "*") = [42] := by decide +kernel
    refine is_word (k := 1) rfl ?_ (by decide +kernel) (by cases b <;> decide +kernel)
    rw [hW, List.cons_append, step_star]
  · refine is_word (k := 1 + 1) rfl ((var_w (r := []) b n [118] (by decide +kernel)).trans (var_ok (qual_plain h 118 [] (by decide +kernel) (by decide +kernel)) (txt_ne _ _) (by decide +kernel) (by decide +kernel))) (by decide +kernel) (by decide +kernel)
  · refine is_word (k := 1 + (1 + 1 + 1)) rfl ((var_w (r := []) b n [112, 58, 113] (by decide +kernel)).trans (var_ok (qual_two h 112 [] 113 [] (by decide +kernel) (by decide +kernel) (by decide +kernel) (by decide +kernel) (by decide +kernel)) (by decide +kernel) (by decide +kernel) (by decide +kernel))) (by decide +kernel) (by decide +kernel)
  · exact is_fault rfl ((var_w (r := []) b n [] (by decide +kernel)).trans (var_no (qual_none h) (by decide +kernel)))
  · exact is_fault rfl ((var_w (r := []) b n [112, 58, 42] (by decide +kernel)).trans (var_no (qual_star t 112 [] (by decide +kernel) (by decide +kernel)) (by decide +kernel)))
  · exact is_word rfl ((num_step b n 55 [] (by decide +kernel) (by decide +kernel)).trans (num_plain h 55 (by decide +kernel) (by decide +kernel))) rfl rfl
  · exact is_word rfl ((num_step b n 49 [46, 53] (by decide +kernel) (by decide +kernel)).trans (num_three h 49 53 (by decide +kernel) (by decide +kernel) (by decide +kernel) (by decide +kernel))) rfl rfl
  · exact is_word rfl ((num_stepd b n 53 [] (by decide +kernel) (by decide +kernel)).trans (num_dot h 53 (by decide +kernel) (by decide +kernel) (by decide +kernel))) rfl rfl
  · exact is_word rfl ((num_step b n 55 [46] (by decide +kernel) (by decide +kernel)).trans (num_end h 55 (by decide +kernel) (by decide +kernel))) rfl rfl
  · exact is_word rfl (lit_step b n 39 [120, 32, 42] (by decide +kernel) (by decide +kernel) (by decide) (by decide +kernel) (by decide +kernel) (by decide +kernel)) rfl (by decide +kernel)
  · exact is_word rfl (lit_step b n 34 [111, 114] (by decide +kernel) (by decide +kernel) (by decide) (by decide +kernel) (by decide +kernel) (by decide +kernel)) rfl (by decide +kernel)
  · exact is_word rfl (lit_step b n 39 [111, 114] (by decide +kernel) (by decide +kernel) (by decide) (by decide +kernel) (by decide +kernel) (by decide +kernel)) rfl (by decide +kernel)
  · exact is_word rfl (step_mk b n 47 [] (by decide +kernel) (by decide +kernel) (.inl (by decide)) (mark_op (mark_one 47 (by decide +kernel) h (by decide +kernel) (by decide +kernel) (by decide +kernel)) (by decide +kernel))) rfl rfl
  · exact is_word rfl (step_mk b n 47 [47] (by decide +kernel) (by decide +kernel) (.inl (by decide)) (mark_op (mark_two 47 47 (by decide +kernel) (by decide +kernel)) (by decide +kernel))) rfl rfl
  · exact is_word rfl (step_mk b n 124 [] (by decide +kernel) (by decide +kernel) (.inl (by decide)) (mark_op (mark_one 124 (by decide +kernel) h (by decide +kernel) (by decide +kernel) (by decide +kernel)) (by decide +kernel))) rfl rfl
  · exact is_word rfl (step_mk b n 43 [] (by decide +kernel) (by decide +kernel) (.inl (by decide)) (mark_op (mark_one 43 (by decide +kernel) h (by decide +kernel) (by decide +kernel) (by decide +kernel)) (by decide +kernel))) rfl rfl
  · exact is_word rfl (step_mk b n 45 [] (by decide +kernel) (by decide +kernel) (.inl (by decide)) (mark_op (mark_one 45 (by decide +kernel) h (by decide +kernel) (by decide +kernel) (by decide +kernel)) (by decide +kernel))) rfl rfl
  · exact is_word rfl (step_mk b n 61 [] (by decide +kernel) (by decide +kernel) (.inl (by decide)) (mark_op (mark_one 61 (by decide +kernel) h (by decide +kernel) (by decide +kernel) (by decide +kernel)) (by decide +kernel))) rfl rfl
  · exact is_word rfl (step_mk b n 33 [61] (by decide +kernel) (by decide +kernel) (.inl (by decide)) (mark_op (mark_two 33 61 (by decide +kernel) (by decide +kernel)) (by decide +kernel))) rfl rfl
  · exact is_word rfl (step_mk b n 60 [] (by decide +kernel) (by decide +kernel) (.inl (by decide)) (mark_op (mark_one 60 (by decide +kernel) h (by decide +kernel) (by decide +kernel) (by decide +kernel)) (by decide +kernel))) rfl rfl
  · exact is_word rfl (step_mk b n 60 [61] (by decide +kernel) (by decide +kernel) (.inl (by decide)) (mark_op (mark_two 60 61 (by decide +kernel) (by decide +kernel)) (by decide +kernel))) rfl rfl
  · exact is_word rfl (step_mk b n 62 [] (by decide +kernel) (by decide +kernel) (.inl (by decide)) (mark_op (mark_one 62 (by decide +kernel) h (by decide +kernel) (by decide +kernel) (by decide +kernel)) (by decide +kernel))) rfl rfl
  · exact is_word rfl (step_mk b n 62 [61] (by decide +kernel) (by decide +kernel) (.inl (by decide)) (mark_op (mark_two 62 61 (by decide +kernel) (by decide +kernel)) (by decide +kernel))) rfl rfl
  · exact is_word rfl (step_mk b n 40 [] (by decide +kernel) (by decide +kernel) (.inl (by decide)) (mark_sg (mark_one 40 (by decide +kernel) h (by decide +kernel) (by decide +kernel) (by decide +kernel)) (by decide +kernel) (by decide +kernel))) rfl rfl
  · exact is_word rfl (step_mk b n 41 [] (by decide +kernel) (by decide +kernel) (.inl (by decide)) (mark_sg (mark_one 41 (by decide +kernel) h (by decide +kernel) (by decide +kernel) (by decide +kernel)) (by decide +kernel) (by decide +kernel))) rfl rfl
  · exact is_word rfl (step_mk b n 91 [] (by decide +kernel) (by decide +kernel) (.inl (by decide)) (mark_sg (mark_one 91 (by decide +kernel) h (by decide +kernel) (by decide +kernel) (by decide +kernel)) (by decide +kernel) (by decide +kernel))) rfl rfl
  · exact is_word rfl (step_mk b n 93 [] (by decide +kernel) (by decide +kernel) (.inl (by decide)) (mark_sg (mark_one 93 (by decide +kernel) h (by decide +kernel) (by decide +kernel) (by decide +kernel)) (by decide +kernel) (by decide +kernel))) rfl rfl
  · exact is_word rfl (step_mk b n 46 [] (by decide +kernel) (by decide +kernel) (.inr h.noFig) (mark_sg (mark_one 46 (by decide +kernel) h (by decide +kernel) (by decide +kernel) (by decide +kernel)) (by decide +kernel) (by decide +kernel))) rfl rfl
  · exact is_word rfl (step_mk b n 46 [46] (by decide +kernel) (by decide +kernel) (.inr (show (((⟨#[46]⟩ : Str) != Str.ofString "") && isFig (⟨#[46]⟩ : Str)) = false by decide +kernel)) (mark_sg (mark_two 46 46 (by decide +kernel) (by decide +kernel)) (by decide +kernel) (by decide +kernel))) rfl rfl
  · exact is_word rfl (step_mk b n 64 [] (by decide +kernel) (by decide +kernel) (.inl (by decide)) (mark_sg (mark_one 64 (by decide +kernel) h (by decide +kernel) (by decide +kernel) (by decide +kernel)) (by decide +kernel) (by decide +kernel))) rfl rfl
  · exact is_word rfl (step_mk b n 44 [] (by decide +kernel) (by decide +kernel) (.inl (by decide)) (mark_sg (mark_one 44 (by decide +kernel) h (by decide +kernel) (by decide +kernel) (by decide +kernel)) (by decide +kernel) (by decide +kernel))) rfl rfl
  · exact is_word rfl (step_mk b n 58 [58] (by decide +kernel) (by decide +kernel) (.inl (by decide)) (mark_sg (mark_two 58 58 (by decide +kernel) (by decide +kernel)) (by decide +kernel) (by decide +kernel))) rfl rfl
  · exact is_fault rfl (step_mk b n 33 [] (by decide +kernel) (by decide +kernel) (.inl (by decide)) (mark_no (mark_one 33 (by decide +kernel) h (by decide +kernel) (by decide +kernel) (by decide +kernel)) (by decide +kernel) (by decide +kernel)))
  · exact is_fault rfl (step_mk b n 35 [] (by decide +kernel) (by decide +kernel) (.inl (by decide)) (mark_no (mark_one 35 (by decide +kernel) h (by decide +kernel) (by decide +kernel) (by decide +kernel)) (by decide +kernel) (by decide +kernel)))
  · exact is_fault rfl (step_mk b n 59 [] (by decide +kernel) (by decide +kernel) (.inl (by decide)) (mark_no (mark_one 59 (by decide +kernel) h (by decide +kernel) (by decide +kernel) (by decide +kernel)) (by decide +kernel) (by decide +kernel)))
theorem step_w {wd : Wd} {W : Str} {t : List Nat} {f : Str} (hm : IsW wd W) (b : Bool) (n : Int) (F : Fol f t) : StepIs wd W b n f t (stepO b n (cds W ++ t)) := by
  rcases hm with hm | ⟨op, bad, star, kind, rfl, hm⟩
  · exact step_ot hm b n F.tl
  · exact step_nm hm b n F

-- L3
/-- a blank, what the word is, the word -/
abbrev It := Str × Wd × Str
def textOf : List It → List Nat
  | [] => []
  | x :: r => cds x.1 ++ (cds x.2.2 ++ textOf r)
def fol : List It → Str
  | [] => Str.ofString ""
  | x :: _ => x.2.2
/-- what the law wants of the words, the first of them without its blank -/
def dueR : List It → Bool → Int → Sum Str (List RowT)
  | [], _, n => .inr [(Str.ofString "end", Str.ofString "", n)]
  | x :: r, b, n => match rowL x.2.1 b (n + (x.1.length : Int)) (fol r) with
    | .inl m => .inl m
    | .inr row => match dueR r (behF row.1 x.2.2) (n + (x.1.length : Int) + (x.2.2.length : Int)) with
      | .inl m => .inl m
      | .inr l => .inr (row :: l)
def Gap (g : Str) : Prop := g = Str.ofString " " ∨ g = Str.ofString "  " ∨ g = Str.ofString "\n"
def Ok (l : List It) : Prop := ∀ x ∈ l, Gap x.1 ∧ IsW x.2.1 x.2.2
theorem isW_mem {wd : Wd} {W : Str} (h : IsW wd W) : W ∈ menuW := by
  rcases h with h | ⟨op, bad, star, kind, rfl, h⟩
  · exact List.mem_append_right _ (List.mem_map.mpr ⟨_, h, rfl⟩)
  · exact List.mem_append_left _ (List.mem_map.mpr ⟨_, h, rfl⟩)
def goodHead (W : Str) : Bool := match cds W with
  | [] => false
  | c :: l => !isSp ⟨#[c]⟩ && (((⟨#[c]⟩ : Str) == Str.ofString "(") == (W == Str.ofString "(")) && (if (⟨#[c]⟩ : Str) == Str.ofString ":" then (W == Str.ofString "::") && (l == [58]) else !(W == Str.ofString "::")) &&
    (!([Str.ofString "'", Str.ofString "\""].any (fun x => x == (⟨#[c]⟩ : Str))) || l.contains c) && decide (W.length ≤ 5) && (cds W).all (fun c => decide (c < 128))
theorem good_all : menuW.all goodHead = true := by decide +kernel
theorem head_w {W : Str} (h : W ∈ menuW) : ∃ c l, cds W = c :: l ∧ isSp ⟨#[c]⟩ = false ∧ ((⟨#[c]⟩ : Str) == Str.ofString "(") = (W == Str.ofString "(") ∧ (∀ t, (((⟨#[c]⟩ : Str) == Str.ofString ":") && (sgn (l ++ t) == Str.ofString ":")) = (W == Str.ofString "::")) ∧
    ([Str.ofString "'", Str.ofString "\""].any (fun x => x == (⟨#[c]⟩ : Str)) = true → c ∈ l) ∧ W.length ≤ 5 ∧ ∀ c ∈ cds W, c < 128 := by
  have hg := List.all_eq_true.mp good_all W h
  unfold goodHead at hg
  cases e : cds W with
  | nil => rw [e] at hg; exact nomatch hg
  | cons c l =>
    rw [e] at hg
    simp only [Bool.and_eq_true, Bool.not_eq_true', Bool.or_eq_true, decide_eq_true_eq, List.contains_eq_mem, List.all_eq_true, beq_iff_eq] at hg
    obtain ⟨⟨⟨⟨⟨h1, h2⟩, h3⟩, h4⟩, h5⟩, h6⟩ := hg
    refine ⟨c, l, rfl, h1, h2, fun t => ?_, fun hq => ?_, h5, h6⟩
    · by_cases hc : ((⟨#[c]⟩ : Str) == Str.ofString ":") = true
      · have hc' : (⟨#[c]⟩ : Str) = Str.ofString ":" := by simpa using hc
        rw [if_pos hc'] at h3
        simp only [Bool.and_eq_true, beq_iff_eq] at h3
        have e3 : (sgn (58 :: t) == Str.ofString ":") = true := show ((⟨#[58]⟩ : Str) == Str.ofString ":") = true by decide +kernel
        rw [hc, h3.2, h3.1]
        show (true && (sgn (58 :: t) == Str.ofString ":")) = _
        rw [e3]
        decide +kernel
      · have hc' : ¬ (⟨#[c]⟩ : Str) = Str.ofString ":" := by simpa using hc
        rw [if_neg hc'] at h3
        rw [Bool.not_eq_true] at hc
        rw [hc]
        simp only [Bool.not_eq_true'] at h3
        rw [h3]
        rfl
    · rcases h4 with h4 | h4
      · rw [hq] at h4; exact nomatch h4
      · exact h4
theorem spN_w {W : Str} (h : W ∈ menuW) (t : List Nat) : spN (cds W ++ t) = 0 := by
  obtain ⟨c, l, e, h1, -⟩ := head_w h
  rw [e, List.cons_append, spN_cons, h1]
  rfl
theorem gap_sp {g : Str} (h : Gap g) {t : List Nat} (ht : spN t = 0) : spN (cds g ++ t) = g.length := by
  rcases h with rfl | rfl | rfl
  · rw [show cds (Str.ofString " ") = [32] by decide +kernel, List.cons_append, spN_cons, if_pos (by decide +kernel), List.nil_append, ht]; decide +kernel
  · rw [show cds (Str.ofString "  ") = [32, 32] by decide +kernel, List.cons_append, spN_cons, if_pos (by decide +kernel), List.cons_append, spN_cons, if_pos (by decide +kernel), List.nil_append, ht]; decide +kernel
  · rw [show cds (Str.ofString "\n") = [10] by decide +kernel, List.cons_append, spN_cons, if_pos (by decide +kernel), List.nil_append, ht]; decide +kernel
theorem gap_tl {g : Str} (h : Gap g) (t : List Nat) : Tl (cds g ++ t) := by
  rcases h with rfl | rfl | rfl
  · rw [show cds (Str.ofString " ") = [32] by decide +kernel]; exact .inr (.inl ⟨_, rfl⟩)
  · rw [show cds (Str.ofString "  ") = [32, 32] by decide +kernel]; exact .inr (.inl ⟨_, rfl⟩)
  · rw [show cds (Str.ofString "\n") = [10] by decide +kernel]; exact .inr (.inr ⟨_, rfl⟩)
theorem text_sp {x : It} {r : List It} (h : Gap x.1 ∧ IsW x.2.1 x.2.2) : spN (textOf (x :: r)) = x.1.length ∧ (textOf (x :: r)).drop x.1.length = cds x.2.2 ++ textOf r :=
  ⟨gap_sp h.1 (spN_w (isW_mem h.2) _), List.drop_left' (len_cds _)⟩
theorem fol_ok : ∀ {l : List It}, Ok l → Fol (fol l) (textOf l)
  | [], _ => ⟨.inl rfl, by decide +kernel, by decide +kernel⟩
  | x :: r, h => by
    have hx := h x (.head _)
    obtain ⟨c, l, e, h1, h2, h3, -⟩ := head_w (isW_mem hx.2)
    obtain ⟨e1, e2⟩ := text_sp (r := r) hx
    refine ⟨gap_tl hx.1 _, ?_, ?_⟩
    · rw [e1, e2, e]; exact h2
    · rw [e1, e2, e]; exact h3 _
theorem spN_drop (t : List Nat) : spN (t.drop (spN t)) = 0 := by
  induction t with
  | nil => rfl
  | cons c t ih =>
    rw [spN_cons]
    by_cases h : isSp ⟨#[c]⟩ = true
    · rw [if_pos h, List.drop_succ_cons]; exact ih
    · rw [if_neg h, List.drop_zero, spN_cons, if_neg h]
def dueW (wd : Wd) (W : Str) (r : List It) (b : Bool) (n : Int) : Sum Str (List RowT) := match rowL wd b n (fol r) with
    | .inl m => .inl m
    | .inr row => match dueR r (behF row.1 W) (n + (W.length : Int)) with
      | .inl m => .inl m
      | .inr l => .inr (row :: l)
theorem run_step {wd : Wd} {W : Str} {r : List It} (hw : IsW wd W) (hr : Ok r) (ih : ∀ b n, ∃ cnt, cnt ≤ r.length + 1 ∧ Runs cnt b (n + (spN (textOf r) : Int)) ((textOf r).drop (spN (textOf r))) (dueR r b n)) (b : Bool) (n : Int) :
    ∃ cnt, cnt ≤ r.length + 2 ∧ Runs cnt b n (cds W ++ textOf r) (dueW wd W r b n) := by
  obtain ⟨c, l, e, -, -, -, hq, -⟩ := head_w (isW_mem hw)
  have hq' : [Str.ofString "'", Str.ofString "\""].any (fun x => x == sgn (c :: (l ++ textOf r))) = true → c ∈ l ++ textOf r := fun h => List.mem_append_left _ (hq h)
  have hl := len_cds W
  have hs := step_w hw b n (fol_ok hr)
  rw [e, List.cons_append] at hs ⊢
  have hwl : (c :: (l ++ textOf r)).drop W.length = textOf r := by rw [← List.cons_append, ← e]; exact List.drop_left' hl
  rcases hs with ⟨m, h1, h2⟩ | ⟨kind, text, k, h1, h2, hk, h4⟩
  · refine ⟨0, Nat.zero_le _, ?_⟩
    unfold dueW
    rw [h1]
    exact .fault h2 hq'
  · obtain ⟨cnt, hc, R⟩ := ih (behF kind W) (n + (W.length : Int))
    have h1k : 1 ≤ W.length := by rw [← hl, e]; exact Nat.le_add_left 1 _
    have key : ∃ j, spN ((c :: (l ++ textOf r)).drop k) = j ∧ 1 ≤ k ∧ Runs cnt (behF kind text) (n + (k : Int) + (j : Int)) (((c :: (l ++ textOf r)).drop k).drop j) (dueR r (behF kind W) (n + (W.length : Int))) := by
      rcases hk with rfl | rfl
      · exact ⟨spN (textOf r), by rw [hwl], h1k, by rw [hwl, ← h4]; exact R⟩
      · have e2 : (c :: (l ++ textOf r)).drop (W.length + spN (textOf r)) = (textOf r).drop (spN (textOf r)) := by rw [← List.drop_drop, hwl]
        refine ⟨0, by rw [e2, spN_drop], by omega, ?_⟩
        rw [e2, List.drop_zero, ← h4]
        have e3 : n + ((W.length + spN (textOf r) : Nat) : Int) + ((0 : Nat) : Int) = n + (W.length : Int) + (spN (textOf r) : Int) := by omega
        rw [e3]
        exact R
    obtain ⟨j, hj, h1k, R'⟩ := key
    refine ⟨cnt + 1, by omega, ?_⟩
    unfold dueW
    rw [h1]
    dsimp only
    revert R'
    cases dueR r (behF kind W) (n + (W.length : Int)) with
    | inl m => exact fun R' => .bad h2 hq' h1k hj R'
    | inr rows => exact fun R' => .word h2 hq' h1k hj R'
theorem run_all : ∀ (l : List It), Ok l → ∀ b n, ∃ cnt, cnt ≤ l.length + 1 ∧ Runs cnt b (n + (spN (textOf l) : Int)) ((textOf l).drop (spN (textOf l))) (dueR l b n)
  | [], _, b, n => ⟨1, Nat.le_refl 1, by
      have e : n + ((spN (textOf []) : Nat) : Int) = n := by show n + ((0 : Nat) : Int) = n; omega
      rw [e]
      exact .nil b n⟩
  | x :: r, h, b, n => by
    have hx := h x (.head _)
    have hr : Ok r := fun y hy => h y (.tail _ hy)
    obtain ⟨e1, e2⟩ := text_sp (r := r) hx
    rw [e1, e2]
    exact run_step hx.2 hr (run_all r hr) b (n + (x.1.length : Int))
theorem text_lo : ∀ {l : List It}, Ok l → (∀ c ∈ textOf l, c < 128) ∧ (textOf l).length ≤ 7 * l.length
  | [], _ => ⟨(fun _ h => nomatch h), Nat.le_refl 0⟩
  | x :: r, h => by
    have hx := h x (.head _)
    obtain ⟨i1, i2⟩ := text_lo (l := r) fun y hy => h y (.tail _ hy)
    obtain ⟨c, l, e, -, -, -, -, h5, h6⟩ := head_w (isW_mem hx.2)
    have hg : (∀ c ∈ cds x.1, c < 128) ∧ (cds x.1).length ≤ 2 := by
      rcases hx.1 with q | q | q <;> rw [q] <;> exact ⟨by decide +kernel, by decide +kernel⟩
    constructor
    · intro c hc
      rcases List.mem_append.mp hc with hc | hc
      · exact hg.1 c hc
      · rcases List.mem_append.mp hc with hc | hc
        · exact h6 c hc
        · exact i1 c hc
    · show (cds x.1 ++ (cds x.2.2 ++ textOf r)).length ≤ 7 * (r.length + 1)
      have := len_cds x.2.2
      rw [List.length_append, List.length_append]
      omega

-- D0
/-- `_law_row` at any word of the menu -/
theorem roww_c (w : World) (wd : Wd) (W : Str) (b : Bool) (n : Int) (f : Str) (tw tn tf : Tok) (rest : List (Addr × Obj)) (hw : IsW wd W) (h0 : 0 ≤ n) (h1 : n ≤ 2000) :
    Con w 3 90 320 [.str W tw, .bool b, .int n tn, .str f tf] rest (postR (rowL wd b n f) rest) (fun _ => True) := by
  rcases hw with hm | ⟨op, bad, star, kind, rfl, hm⟩
  · exact row_ot w wd W b n f tw tn tf rest hm h0 h1
  · exact row_nm w W op bad star kind b n f tw tn tf rest hm h0 h1
section
variable {prog : Program} {w : World} {A : Around} {E : Value → Shared → Prop} {s : Shared} {env : Env} {h₀ : Heap} {target : Expr} {body : List Stmt} {Q : Flow → Shared → Prop}
theorem endW_mono {L : Addr} {s₁ s₂ : Shared} {its : List (Addr × Obj)} {R R' : (Str → Option Value) → List (Addr × Obj) → Prop} (hR : ∀ m n, R m n → R' m n) (h : UnrEndW h₀ L s₁ its R s₂) : UnrEndW h₀ L s₁ its R' s₂ := by
  obtain ⟨h', tk, m', news', e, F, N, o, r⟩ := h
  exact ⟨h', tk, m', news', e, F, N, o, hR _ _ r⟩
theorem postW_mono {L : Addr} {s₁ s₂ : Shared} {its : List (Addr × Obj)} {R R' : (Str → Option Value) → List (Addr × Obj) → Prop} {f : Flow} (hR : ∀ m n, R m n → R' m n) (h : UnrPostW h₀ L s₁ its R Q f s₂) : UnrPostW h₀ L s₁ its R' Q f s₂ := by
  cases f with
  | ret v => exact h
  | brk => exact h
  | next => exact endW_mono hR h
  | cont => exact endW_mono hR h
/-- the turns of a loop over enumerate(..) by an invariant -/
theorem enum_turns {ws : List (Addr × String)} {keep : List (Addr × Obj)} (J : Nat → List Value → (Str → Option Value) → List (Addr × Obj) → Prop)
    (h0 : ∀ i m news, J i [] m news → ∀ h tk, Fr h₀ env.locals h m → News h₀ env.locals h news → Q .next { s with heap := h, toks := tk })
    (hs : ∀ i v r m news, J i (v :: r) m news → ∀ T t h tk, IsTup h T #[.int (i : Int) t, v] → Fr h₀ env.locals h m → AllObj ws (fun its => News h₀ env.locals h (its ++ news) →
      wpAny (model prog w) A (assign target env (.ref T)) (fun _ s₂ => wpAny (model prog w) A (execs body env) (UnrPostW h₀ env.locals { s with heap := h, toks := tk } its (fun m' n' => SubL keep n' ∧ J (i + 1) r m' n') Q) E s₂) E { s with heap := h, toks := tk })) :
    ∀ vs i m news, J i vs m news → ItemsRest prog w A E h₀ env target body Q s ws keep (enumItems i vs) m news
  | [], i, m, news, j => h0 i m news j
  | v :: r, i, m, news, j => by
    refine ItemsRest.pair fun T t h tk hT F => ?_
    have base := hs i v r m news j T t h tk hT F
    refine allObj_mono (fun its H N => ?_) base
    exact wpAny_mono (H N) (fun _ s₂ h₂ => wpAny_mono h₂ (fun f s₃ p => postW_mono (fun m' n' q => ⟨q.1, enum_turns J h0 hs r (i + 1) m' n' q.2⟩) p) fun _ _ e => e) fun _ _ e => e
where
  allObj_mono {ws : List (Addr × String)} {k k' : List (Addr × Obj) → Prop} (hk : ∀ its, k its → k' its) (h : AllObj ws k) : AllObj ws k' := by
    induction ws generalizing k k' with
    | nil => exact hk _ h
    | cons x r ih => exact fun o ho => ih (fun its q => hk _ q) (h o ho)
end

-- E0
section
open PySem PySem.W PyProof.Rows PySem.Calls PySem.Spec PySem.SeqAt
def rowD (r : RowT) : PyData := .tuple [.str r.1, .str r.2.1, .int r.2.2]
def okR (r : RowT) : Prop := PyData.strOk r.1 = true ∧ PyData.strOk r.2.1 = true
theorem menu_ok : menuW.all PyData.strOk = true := by decide +kernel
theorem inl_inr {α β : Type} {a : α} {b : β} {P : Prop} (h : (Sum.inl a : Sum α β) = .inr b) : P := nomatch h
theorem rowL_ok {wd : Wd} {W : Str} (hw : IsW wd W) (b : Bool) (n : Int) (f : Str) {row : RowT} (h : rowL wd b n f = .inr row) : okR row := by
  have hm := List.all_eq_true.mp menu_ok W (isW_mem hw)
  rcases hw with hw | ⟨op, bad, star, kind, rfl, hw⟩
  · simp only [othersL, List.mem_cons, Prod.mk.injEq, List.not_mem_nil, or_false] at hw
    rcases hw with ⟨rfl, rfl⟩ | ⟨rfl, rfl⟩ | ⟨rfl, rfl⟩ | ⟨rfl, rfl⟩ | ⟨rfl, rfl⟩ | ⟨rfl, rfl⟩ | ⟨rfl, rfl⟩ | ⟨rfl, rfl⟩ | ⟨rfl, rfl⟩ | ⟨rfl, rfl⟩ | ⟨rfl, rfl⟩ | ⟨rfl, rfl⟩ | ⟨rfl, rfl⟩ | ⟨rfl, rfl⟩ | ⟨rfl, rfl⟩ | ⟨rfl, rfl⟩ | ⟨rfl, rfl⟩ | ⟨rfl, rfl⟩ | ⟨rfl, rfl⟩ | ⟨rfl, rfl⟩ | ⟨rfl, rfl⟩ | ⟨rfl, rfl⟩ | ⟨rfl, rfl⟩ | ⟨rfl, rfl⟩ | ⟨rfl, rfl⟩ | ⟨rfl, rfl⟩ | ⟨rfl, rfl⟩ | ⟨rfl, rfl⟩ | ⟨rfl, rfl⟩ | ⟨rfl, rfl⟩ | ⟨rfl, rfl⟩ | ⟨rfl, rfl⟩ | ⟨rfl, rfl⟩ | ⟨rfl, rfl⟩ | ⟨rfl, rfl⟩
    · rw [← Sum.inr.inj h]
      exact ⟨by dsimp only; cases b <;> decide +kernel, by dsimp only; decide +kernel⟩
    all_goals first | exact inl_inr h | (rw [← Sum.inr.inj h]; exact ⟨by dsimp only; decide +kernel, by dsimp only; decide +kernel⟩)
  · rw [rowL_nm] at h
    cases b with
    | true =>
      cases op with
      | true => rw [← Sum.inr.inj h]; exact ⟨by dsimp only; decide +kernel, hm⟩
      | false => exact nomatch h
    | false =>
      cases bad with
      | true => exact nomatch h
      | false =>
        simp only [Bool.false_eq_true, if_false] at h
        split at h
        · rw [← Sum.inr.inj h]; exact ⟨by dsimp only; cases kind <;> decide +kernel, hm⟩
        · rw [← Sum.inr.inj h]; exact ⟨by show PyData.strOk (if (f == Str.ofString "::") = true then _ else _) = true; split <;> decide +kernel, hm⟩
theorem dueR_ok : ∀ {l : List It}, Ok l → ∀ (b : Bool) (n : Int) {rows : List RowT}, dueR l b n = .inr rows → ∀ r ∈ rows, okR r
  | [], _, b, n, rows, h, r, hr => by
    rw [← Sum.inr.inj h] at hr
    rw [List.mem_singleton.mp hr]
    exact ⟨by dsimp only; decide +kernel, by dsimp only; decide +kernel⟩
  | x :: l, hok, b, n, rows, h, r, hr => by
    unfold dueR at h
    have hx := hok x (.head _)
    cases e : rowL x.2.1 b (n + (x.1.length : Int)) (fol l) with
    | inl m => rw [e] at h; exact nomatch h
    | inr row =>
      rw [e] at h
      dsimp only at h
      cases e2 : dueR l (behF row.1 x.2.2) (n + (x.1.length : Int) + (x.2.2.length : Int)) with
      | inl m => rw [e2] at h; exact nomatch h
      | inr rs =>
        rw [e2] at h
        rw [← Sum.inr.inj h] at hr
        rcases List.mem_cons.mp hr with rfl | hr
        · exact rowL_ok hx.2 _ _ _ e
        · exact dueR_ok (fun y hy => hok y (.tail _ hy)) _ _ e2 r hr
theorem can_rows : ∀ {rows : List RowT}, (∀ r ∈ rows, okR r) → PyData.canLayAll0 (rows.map rowD) = true
  | [], _ => by rw [List.map_nil, PyData.canLayAll0]
  | r :: rows, h => by
    have hr := h r (.head _)
    rw [List.map_cons, PyData.canLayAll0, can_rows (fun y hy => h y (.tail _ hy)), Bool.and_true]
    simp only [rowD, PyData.canLay0, PyData.canLayAll0, hr.1, hr.2, Bool.and_self, Bool.and_true]
theorem depth_rows : ∀ (rows : List RowT), PyData.depthAll (rows.map rowD) ≤ 1
  | [] => by rw [List.map_nil, PyData.depthAll]; exact Nat.zero_le _
  | r :: rows => by
    rw [List.map_cons, PyData.depthAll]
    have := depth_rows rows
    have h : (rowD r).depth = 1 := by simp only [rowD, PyData.depth, PyData.depthAll]; rfl
    omega
theorem eqv_rows : ∀ (rows : List RowT), PyData.eqvAll (rows.map rowD) (rows.map rowD) = true
  | [] => by rw [List.map_nil, PyData.eqvAll]
  | r :: rows => by
    rw [List.map_cons, PyData.eqvAll, eqv_rows rows, Bool.and_true]
    simp only [rowD, PyData.eqv, PyData.eqvAll, beq_self_eq_true, Bool.and_self]
theorem reads_rows {h : Heap} : ∀ {l : List TEnt}, (∀ p ∈ tlg l, h.get? p.1 = some p.2) → ReadsAll h (trf l) (l.map (rowD ∘ fun e => e.2)) []
  | [], _ => .nil
  | e :: l, hl => by
    have h1 : h.get? e.1.a = some (tupO e) := hl (e.1.a, tupO e) (.head _)
    exact .cons (as := []) (bs := []) (.tuple h1 rfl rfl (.cons (as := []) (bs := []) (.str _ _) (.cons (as := []) (bs := []) (.str _ _) (.cons (as := []) (bs := []) (.int _ _) .nil)))) (reads_rows (l := l) fun p hp => hl p (.tail _ hp))
theorem shaped_rows {rows : List RowT} (h : ∀ r ∈ rows, okR r) : shaped (.list (rows.map rowD)) = true := by
  unfold shaped
  have h1 : (PyData.list (rows.map rowD)).canLay0 = true := by rw [PyData.canLay0]; exact can_rows h
  have h2 : (PyData.list (rows.map rowD)).depth ≤ 64 := by rw [PyData.depth]; have := depth_rows rows; omega
  rw [h1, decide_eq_true h2]; rfl
theorem eq_rows {prog : Program} {w : World} {A : Around} {E : Value → Shared → Prop} {s : Shared} {h₀ : Heap} {L : Addr} {news : List (Addr × Obj)} {Q : Value → Shared → Prop} {a b : Addr} {l1 l2 : List TEnt} {n1 n2 : Nat}
    (N : News h₀ L s.heap news) (ha : (a, listOf (trf l1).toArray n1) ∈ news) (hb : (b, listOf (trf l2).toArray n2) ∈ news) (h1 : ∀ p ∈ tlg l1, p ∈ news) (h2 : ∀ p ∈ tlg l2, p ∈ news) (e : l1.map (·.2) = l2.map (·.2)) (ok : ∀ r ∈ l1.map (·.2), okR r) (hu : A.units + 64 < cLine) (h : Q (.bool true) s) :
    wpAny (model prog w) A (compareOp .Eq (.ref a) (.ref b)) Q E s := by
  have r1 : Reads s.heap (.ref a) (.list ((l1.map (·.2)).map rowD)) [a] := by
    rw [List.map_map]
    exact .list (as := []) (N _ ha).1 rfl rfl (by simpa using reads_rows fun p hp => (N p (h1 p hp)).1)
  have r2 : Reads s.heap (.ref b) (.list ((l2.map (·.2)).map rowD)) [b] := by
    rw [List.map_map]
    exact .list (as := []) (N _ hb).1 rfl rfl (by simpa using reads_rows fun p hp => (N p (h2 p hp)).1)
  rw [← e] at r2
  refine eq_dataH r1 r2 (shaped_rows ok) (shaped_rows ok) hu ?_
  rw [PyData.eqv, eqv_rows]
  exact h
end

-- D1
theorem hk503 : True := by
  k_with_none
  exact True.intro
theorem hk491 : True := by
  k_with "mine k_all" => (assumption)
  exact True.intro
theorem hk492 : True := by
  k_with "mine call ref" => ((k_here; (k_dflt (show wpAny _ _ (call (Value.ref 320) _) _ _ _)); k_dflt (refine' useU (C := roww_c _ _ _ _ _ _ _ _ _ _ hw (by omega) (by (first | omega | fail "n1"))) (hp := ?_)); (refine' ⟨?_, ?_⟩; (intro m' hm' t' h' tk' F' N'; have hm1 := msg_len hm'); rotate_left; (intro row' hr' a' t1' t2' t3' k' h' tk' F' N'))))
  exact True.intro
/-- an item of the loop: a blank and a word, with the tokens of the word and the blank -/
abbrev LI := It × Tok × Tok
def wvs (l : List LI) : List Value := l.map fun x => .str x.1.2.2 x.2.1
def gvs (l : List LI) : List Value := l.map fun x => .str x.1.1 x.2.2
abbrev its (l : List LI) : List It := l.map (·.1)
def prep (rows : List RowT) : Sum Str (List RowT) → Sum Str (List RowT)
  | .inl m => .inl m
  | .inr l => .inr (rows ++ l)
theorem at_fact {prog : Program} {w : World} {A : Around} {s : Shared} {h₀ : Heap} {L : Addr} {E : Value → Shared → Prop} {Q : Value → Shared → Prop} {value slice : PySem.Expr} {th : Addr} {l : List Value} {ep : Nat} {k : Int} {u : Tok} {x : Value} {news : List (Addr × Obj)} (N : News h₀ L s.heap news) (hm : (th, listOf l.toArray ep) ∈ news) (hx : l[k.toNat]? = some x) (k0 : 0 ≤ k) (kn : k ≤ 1000) (h : Q x s)
    (hs : subscripted slice false (.ref th) (.int k u) = operate [.ref th, .int k u] (getItem (.ref th) (.int k u)) := by with_unfolding_all rfl) (hg : ∀ r, letTemporaryGo value (.ref th) r = pure () := by intro _; with_unfolding_all rfl) :
    wpAny (model prog w) A (subscriptTail value slice (.ref th) (.int k u)) Q E s :=
  kim_list N hm rfl rfl k0 (by omega) hx h hs hg
theorem len_strK {prog : Program} {w : World} {A : Around} {s : Shared} {E : Value → Shared → Prop} {Q : Value → Shared → Prop} {x : Str} {t : Tok} (h : x.length ≤ 1000) (k : ∀ t' tk, Q (.int x.length t') { s with toks := tk }) : wpAny (model prog w) A (call (.builtin "len") [.str x t]) Q E s :=
  PySem.P.len_str (by omega) (k _ _)
theorem len_lstK {prog : Program} {w : World} {A : Around} {s : Shared} {h₀ : Heap} {L : Addr} {E : Value → Shared → Prop} {Q : Value → Shared → Prop} {a : Addr} {vs : Array Value} {n : Nat} {news : List (Addr × Obj)} (N : News h₀ L s.heap news) (hm : (a, listOf vs n) ∈ news) (h : vs.size ≤ 1000) (k : ∀ t' tk, Q (.int vs.size t') { s with toks := tk }) : wpAny (model prog w) A (call (.builtin "len") [.ref a]) Q E s :=
  PyProof.Rows.len_list (News.isList N hm) (by omega) (k _ _)
theorem hk493 : True := by
  k_with "mine call builtin:len" => ((k_here; (with_reducible show wpAny _ _ (call (Value.builtin "len") [Value.str _ _]) _ _ _); (refine len_strK ?h ?_; (case h => omega)); intro t'_q tk'_q))
  exact True.intro
theorem hk494 : True := by
  k_with "mine call builtin:len" => ((k_here; (with_reducible show wpAny _ _ (call (Value.builtin "len") [Value.ref _]) _ _ _); k_dflt (refine' len_lstK (vs := (wvs l).toArray) ?N ?a ?h ?_; (case N => k_asm); (case a => k_mem); (case h => omega)); intro t' tk'))
  exact True.intro
theorem hk495 : True := by
  k_with "mine binaryOp Add str str" => ((k_here; (with_reducible show wpAny _ _ (binaryOp Operator.Add (Value.str _ _) (Value.str _ _)) _ _ _); (refine PyProof.Rows.add_str (hsz := ?hsz) ?_; (case hsz => (rw [PySem.sizeLine_eq]; omega))); intro t'_q tk'_q))
  exact True.intro
theorem hk496 : True := by
  k_with "mine subscriptTail" => ((k_here; (with_reducible show wpAny _ _ (subscriptTail (Expr.Name (Str.ofString "gaps") _) _ _ _) _ _ _); k_dflt (refine' at_fact (l := gvs l) ?N ?a hgi ?c ?z ?_ ?s ?g; (case N => k_asm); (case a => k_mem); (case c => omega); (case z => omega); (case s => with_unfolding_all rfl); (case g => (intro _; with_unfolding_all rfl)))))
  exact True.intro
theorem hk497 : True := by
  k_with "mine subscriptTail" => ((k_here; (with_reducible show wpAny _ _ (subscriptTail (Expr.Name (Str.ofString "words") _) _ _ _) _ _ _); k_dflt (refine' at_fact (l := wvs l) ?N ?a hwi ?c ?z ?_ ?s ?g; (case N => k_asm); (case a => k_mem); (case c => omega); (case z => omega); (case s => with_unfolding_all rfl); (case g => (intro _; with_unfolding_all rfl)))))
  exact True.intro
theorem hk498 : True := by
  k_with "mine UnrEndW" => ((refine Hold.out ?_))
  exact True.intro
theorem add_lstK {prog : Program} {w : World} {A : Around} {s : Shared} {h₀ : Heap} {L : Addr} {m : Str → Option Value} {E : Value → Shared → Prop} {Q : Value → Shared → Prop} {a b : Addr} {x y : List Value} {n n' : Nat} {news : List (Addr × Obj)} (F : Fr h₀ L s.heap m) (N : News h₀ L s.heap news) (ha : (a, listOf x.toArray n) ∈ news) (hb : (b, listOf y.toArray n') ∈ news) (hz : x.length + y.length ≤ 1000)
    (h : ∀ D h', Fr h₀ L h' m → News h₀ L h' ((D, listOf (x ++ y).toArray 0) :: news) → (∀ p ∈ news, p.1 < D) → Q (.ref D) { s with heap := h' }) : wpAny (model prog w) A (binaryOp .Add (.ref a) (.ref b)) Q E s :=
  add_arrays (its := x.toArray) (its2 := y.toArray) F N (News.isList N ha) (News.isList N hb) (fun h' F' N' => h _ h' F' N' fun p hp => Heap.lt_size (N p hp).1) (by rw [PySem.sizeLine_eq, List.size_toArray, List.size_toArray]; omega)
theorem hk499 : True := by
  k_with "mine binaryOp Add ref ref" => ((k_here; k_dflt (refine' add_lstK (x := trf acc) (y := [.ref _]) ?F ?N ?a ?b ?z ?_; (case F => k_asm); (case N => k_asm); (case a => k_mem); (case b => k_mem); (case z => ((try simp only [List.length_cons, List.length_nil]); omega))); intro D' h' F' N' l1; (try k_lt l1)))
  exact True.intro
theorem msg_len {wd : Wd} {b : Bool} {n : Int} {f : Str} {m : Str} (h : rowL wd b n f = .inl m) : 1 ≤ m.length := by
  have key : ∀ (x y : Str), 1 ≤ x.length → 1 ≤ (x ++ y).length := fun x y h => by
    have e : (x ++ y).length = x.length + y.length := by
      show (x.cps ++ y.cps).size = _
      rw [Array.size_append]; rfl
    omega
  cases wd with
  | star => exact nomatch h
  | nm W op bad star kind =>
    rw [rowL_nm] at h
    cases b with
    | true =>
      cases op with
      | true => exact nomatch h
      | false => rw [← Sum.inl.inj h]; exact key _ _ (by decide +kernel)
    | false =>
      cases bad with
      | true => rw [← Sum.inl.inj h]; exact key _ _ (by decide +kernel)
      | false =>
        simp only [Bool.false_eq_true, if_false] at h
        split at h <;> exact nomatch h
  | var w v => cases v with
    | none => rw [← Sum.inl.inj h]; exact key _ _ (by decide +kernel)
    | some v => exact nomatch h
  | fix k w t => exact nomatch h
  | bad w => rw [← Sum.inl.inj h]; exact key _ _ (by decide +kernel)
theorem endW_intro {h₀ : Heap} {L : Addr} {its : List (Addr × Obj)} {rest : (Str → Option Value) → List (Addr × Obj) → Prop} {s₁ : Shared} {h' : Heap} {tk : Nat} {m' : Str → Option Value} {all : List (Addr × Obj)} (F : Fr h₀ L h' m') (N : News h₀ L h' all) (news' : List (Addr × Obj))
    (hI : ∀ p ∈ its, p ∈ all) (sub : ∀ p ∈ news', p ∈ all) (off : ∀ p ∈ news', ∀ q ∈ its, p.1 ≠ q.1 ∨ p.2.cls ≠ q.2.cls) (r : rest m' news') : UnrEndW h₀ L s₁ its rest { s₁ with heap := h', toks := tk } :=
  ⟨h', tk, m', news', rfl, F, fun p hp => by
    rcases List.mem_append.mp hp with hp | hp
    · exact N p (hI p hp)
    · exact N p (sub p hp), fun p hp q hq e => by
    rcases off p hp q hq with h | h
    · exact h e
    · have h1 := (N _ (sub p hp)).1
      have h2 := (N _ (hI q hq)).1
      rw [e] at h1
      exact h (congrArg Obj.cls (Option.some.inj (h1.symm.trans h2))), r⟩
/-- the locals of `_law_due`, those that the turns need written out -/
theorem map_is {m : Str → Option Value} {v1 v2 v3 v4 v5 : Value} (h1 : m (Str.ofString "text") = some v1) (h2 : m (Str.ofString "due") = some v2) (h3 : m (Str.ofString "is_behind") = some v3) (h4 : m (Str.ofString "words") = some v4) (h5 : m (Str.ofString "gaps") = some v5) :
    m = fun y => if y = Str.ofString "text" then some v1 else if y = Str.ofString "due" then some v2 else if y = Str.ofString "is_behind" then some v3 else if y = Str.ofString "words" then some v4 else if y = Str.ofString "gaps" then some v5 else m y := by
  funext y
  split
  · next h => rw [h, h1]
  · split
    · next h => rw [h, h2]
    · split
      · next h => rw [h, h3]
      · split
        · next h => rw [h, h4]
        · split
          · next h => rw [h, h5]
          · rfl
/-- what holds between the turns -/
def DJ (l : List LI) (total : Sum Str (List RowT)) (wa ga : Addr) (epw epg : Nat) (rest : List (Addr × Obj)) (i : Nat) (r : List Value) (m : Str → Option Value) (nw : List (Addr × Obj)) : Prop :=
  ∃ (dn rs : List LI) (T : Str) (tt : Tok) (b : Bool), l = dn ++ rs ∧ i = dn.length ∧ r = wvs rs ∧ cds T = textOf (its dn) ∧
    m (Str.ofString "text") = some (.str T tt) ∧ m (Str.ofString "is_behind") = some (.bool b) ∧ m (Str.ofString "words") = some (.ref wa) ∧ m (Str.ofString "gaps") = some (.ref ga) ∧
    ((∃ d acc ep, m (Str.ofString "due") = some (.ref d) ∧ (∀ p ∈ (wa, listOf (wvs l).toArray epw) :: (ga, listOf (gvs l).toArray epg) :: (d, listOf (trf acc).toArray ep) :: (tlg acc ++ rest), p ∈ nw) ∧ acc.length = dn.length ∧ total = prep (acc.map (·.2)) (dueR (its rs) b (T.length : Int))) ∨
     (∃ msg tm, m (Str.ofString "due") = some (.str msg tm) ∧ (∀ p ∈ (wa, listOf (wvs l).toArray epw) :: (ga, listOf (gvs l).toArray epg) :: rest, p ∈ nw) ∧ total = .inl msg))
abbrev tupD (T : Str) (t : Tok) (v : Value) (n : Nat) : Obj := { cls := .type "tuple", data := .seq #[.str T t, v] n }
theorem prep_nil (x : Sum Str (List RowT)) : prep [] x = x := by cases x <;> rfl
theorem text_app : ∀ a b : List It, textOf (a ++ b) = textOf a ++ textOf b
  | [], b => rfl
  | x :: a, b => by
    show cds x.1 ++ (cds x.2.2 ++ textOf (a ++ b)) = (cds x.1 ++ (cds x.2.2 ++ textOf a)) ++ textOf b
    rw [text_app a b]; simp only [List.append_assoc]
theorem cds_app (a b : Str) : cds (a ++ b) = cds a ++ cds b := by
  show (a.cps ++ b.cps).toList = a.cps.toList ++ b.cps.toList
  rw [Array.toList_append]
theorem len_app (a b : Str) : (a ++ b).length = a.length + b.length := by rw [← len_cds, cds_app, List.length_append, len_cds, len_cds]
theorem sub_news {g h : Heap} {L : Addr} {a b : List (Addr × Obj)} (N : News g L h b) (s : ∀ p ∈ a, p ∈ b) : News g L h a := fun p hp => N p (s p hp)
theorem fr_map {g h : Heap} {L : Addr} {m m' : Str → Option Value} (e : m = m') (F : Fr g L h m) : Fr g L h m' := e ▸ F
theorem hk500 : True := by
  k_with "mine exec For Tuple Call cons nil" => ((k_here; (rename Fr _ _ _ _ => lF'_q); (with_unfolding_all refine' For_turns lF'_q ?_; k_whole)))
  exact True.intro
theorem hk501 : True := by
  k_with "mine call type:enumerate" => ((k_here; (with_reducible show wpAny _ _ (call (Value.type _) [Value.ref _]) (fun xv s₁ => wpAny _ _ (pyIter xv) (fun it s₂ => TurnsAt _ _ _ _ _ _ _ _ _ it s₂) _ s₁) _ _); k_dflt (refine' ktu_enum (vs := wvs l) ?hh ?F ?N ?hm ?hc ?hd ?hx ?_; (case hh => rfl); (case F => k_asm); (case N => k_asm); (case hm => k_mem); (case hc => rfl); (case hd => rfl); (case hx => rfl)); intro i' l1; refine Hold.out ?_))
  exact True.intro
theorem cut_str {M : Model} {A : Around} {x : Sem Value} {Q E : Value → Shared → Prop} {s : Shared} (f : Str) (first : ∀ (Q' : Value → Shared → Prop), (∀ t tk, Q' (.str f t) { s with toks := tk }) → wpAny M A x Q' E s) (cont : ∀ t tk, Q (.str f t) { s with toks := tk }) : wpAny M A x Q E s := first Q cont
theorem hk502 : True := by
  k_with "mine eval IfExp" => ((k_here; (fail_if_success (fail_if_success (have := hgi))); (fail_if_success (have := hwi)); (with_reducible show wpAny _ _ (eval (Expr.IfExp (Expr.Compare _ _ _ _) _ _ _) _) _ _ _); (refine Hold.out ?_)))
  exact True.intro
theorem due_end1 {l : List LI} {wa ga : Addr} {epw epg : Nat} {rest all : List (Addr × Obj)} {g h : Heap} {L : Addr} {tp D a : Addr} {T : Str} {t : Tok} {n ep j : Nat} {acc : List TEnt} {k x : Str} {z : Int} {t1 t2 t3 : Tok} (N : News g L h all) (hT : (tp, tupD T t (.ref D) n) ∈ all) (hD : (D, listOf (trf acc ++ [Value.ref a]).toArray ep) ∈ all)
    (ha : (a, ({ cls := .type "tuple", data := .seq #[.str k t1, .str x t2, .int z t3] j } : Obj)) ∈ all) (hW : (wa, listOf (wvs l).toArray epw) ∈ all) (hG : (ga, listOf (gvs l).toArray epg) ∈ all) (hacc : ∀ p ∈ tlg acc ++ rest, p ∈ all) :
    News g L h ((tp, tupD T t (.ref D) n) :: (D, listOf (trf (acc ++ [(⟨a, j, t1, t2, t3⟩, (k, x, z))])).toArray ep) :: (wa, listOf (wvs l).toArray epw) :: (ga, listOf (gvs l).toArray epg) :: (tlg (acc ++ [(⟨a, j, t1, t2, t3⟩, (k, x, z))]) ++ rest)) := by
  refine sub_news N fun p hp => ?_
  simp only [List.mem_cons, List.mem_append, tlg, trf, List.map_append, List.map_cons, List.map_nil, List.not_mem_nil, or_false] at hp hD hacc
  rcases hp with rfl | rfl | rfl | rfl | (hp | rfl) | hp
  · exact hT
  · exact hD
  · exact hW
  · exact hG
  · exact hacc p (.inl hp)
  · exact ha
  · exact hacc p (.inr hp)
theorem due_end2 {l : List LI} {wa ga : Addr} {epw epg : Nat} {rest all : List (Addr × Obj)} {g h : Heap} {L : Addr} {tp : Addr} {o : Obj} (N : News g L h all) (hT : (tp, o) ∈ all) (hW : (wa, listOf (wvs l).toArray epw) ∈ all) (hG : (ga, listOf (gvs l).toArray epg) ∈ all) (hacc : ∀ p ∈ rest, p ∈ all) :
    News g L h ((tp, o) :: (wa, listOf (wvs l).toArray epw) :: (ga, listOf (gvs l).toArray epg) :: rest) := by
  refine sub_news N fun p hp => ?_
  simp only [List.mem_cons] at hp
  rcases hp with rfl | rfl | rfl | hp
  · exact hT
  · exact hW
  · exact hG
  · exact hacc p hp
theorem due_cons (x : It) (r : List It) (b : Bool) (n : Int) : dueR (x :: r) b n = (match rowL x.2.1 b (n + (x.1.length : Int)) (fol r) with
    | .inl m => .inl m
    | .inr row => match dueR r (behF row.1 x.2.2) (n + (x.1.length : Int) + (x.2.2.length : Int)) with
      | .inl m => .inl m
      | .inr l => .inr (row :: l)) := rfl
theorem prep_row {rows : List RowT} {x : It} {r : List It} {b : Bool} {n : Int} {row : RowT} (h : rowL x.2.1 b (n + (x.1.length : Int)) (fol r) = .inr row) : prep rows (dueR (x :: r) b n) = prep (rows ++ [row]) (dueR r (behF row.1 x.2.2) (n + (x.1.length : Int) + (x.2.2.length : Int))) := by
  rw [due_cons, h]
  dsimp only
  cases dueR r (behF row.1 x.2.2) (n + (x.1.length : Int) + (x.2.2.length : Int)) with
  | inl m => rfl
  | inr l => show Sum.inr (rows ++ row :: l) = Sum.inr ((rows ++ [row]) ++ l); rw [List.append_assoc]; rfl
theorem prep_msg {rows : List RowT} {x : It} {r : List It} {b : Bool} {n : Int} {m : Str} (h : rowL x.2.1 b (n + (x.1.length : Int)) (fol r) = .inl m) : prep rows (dueR (x :: r) b n) = .inl m := by
  rw [due_cons, h]; rfl
section
variable {l dn rs : List LI} {g W : Str} {wd : Wd} {tw tg tt : Tok} {total : Sum Str (List RowT)} {wa ga : Addr} {epw epg i : Nat} {rest all : List (Addr × Obj)} {g' h' : Heap} {L' : Addr} {m' : Str → Option Value} {s₁ : Shared} {tk : Nat} {i' : Nat} {o1 o2 : Obj} {T : Str} {b bb : Bool}
theorem cls_ne {x y : String} {o o' : Obj} (h : o.cls = .type x) (h' : o'.cls = .type y) (e : x ≠ y) : o.cls ≠ o'.cls := by
  rw [h, h']; exact fun q => e (Value.type.inj q)
theorem end_off {need : List (Addr × Obj)} (ho1 : o1.cls = .type "enumerate") (ho2 : o2.cls = .type "list_iterator") (h : ∀ p ∈ need, p.2.cls = .type "list" ∨ p.2.cls = .type "tuple" ∨ @LT.lt Nat _ p.1 i') : ∀ p ∈ need, ∀ q ∈ [((i' + 1 : Nat), o1), (i', o2)], p.1 ≠ q.1 ∨ p.2.cls ≠ q.2.cls := by
  intro p hp q hq
  rcases h p hp with h | h | h
  · rcases List.mem_cons.mp hq with rfl | hq
    · exact .inr (cls_ne h ho1 (by decide))
    · rw [List.mem_singleton.mp hq]; exact .inr (cls_ne h ho2 (by decide))
  · rcases List.mem_cons.mp hq with rfl | hq
    · exact .inr (cls_ne h ho1 (by decide))
    · rw [List.mem_singleton.mp hq]; exact .inr (cls_ne h ho2 (by decide))
  · rcases List.mem_cons.mp hq with rfl | hq
    · exact .inl (Nat.ne_of_lt (Nat.lt_succ_of_lt h))
    · rw [List.mem_singleton.mp hq]; exact .inl (Nat.ne_of_lt h)
theorem text_next (e4 : cds T = textOf (its dn)) : cds (T ++ g ++ W) = textOf (its (dn ++ [((g, wd, W), tw, tg)])) := by
  rw [cds_app, cds_app, e4]
  show _ = textOf ((dn ++ [((g, wd, W), tw, tg)]).map (·.1))
  rw [List.map_append, text_app]
  show (textOf (its dn) ++ cds g) ++ cds W = textOf (its dn) ++ (cds g ++ (cds W ++ []))
  rw [List.append_nil, List.append_assoc]
theorem end_row {a' D' : Addr} {acc : List TEnt} {row' : RowT} {t1 t2 t3 : Tok} {k : Nat} (F : Fr g' L' h' m') (N : News g' L' h' all)
    (hD : (D', listOf (trf acc ++ [Value.ref a']).toArray 0) ∈ all) (ha' : (a', tup3 row' t1 t2 t3 k) ∈ all) (hW : (wa, listOf (wvs l).toArray epw) ∈ all) (hG : (ga, listOf (gvs l).toArray epg) ∈ all) (hacc : ∀ p ∈ tlg acc ++ rest, p ∈ all) (hi1 : (i' + 1, o1) ∈ all) (hi2 : (i', o2) ∈ all)
    (ho1 : o1.cls = .type "enumerate") (ho2 : o2.cls = .type "list_iterator") (hI : ∀ p ∈ rest, @LT.lt Nat _ p.1 i')
    (m1 : m' (Str.ofString "text") = some (.str (T ++ g ++ W) tt)) (m2 : m' (Str.ofString "is_behind") = some (.bool bb)) (m3 : m' (Str.ofString "words") = some (.ref wa)) (m4 : m' (Str.ofString "gaps") = some (.ref ga)) (m5 : m' (Str.ofString "due") = some (.ref D'))
    (e1 : l = dn ++ ((g, wd, W), tw, tg) :: rs) (e2 : i = dn.length) (e4 : cds T = textOf (its dn)) (ha : acc.length = dn.length) (ht : total = prep (acc.map (·.2)) (dueR (its (((g, wd, W), tw, tg) :: rs)) b (T.length : Int)))
    (hr : rowL wd b ((T ++ g).length : Int) (fol (its rs)) = .inr row') (hb : bb = behF row'.1 W) :
    UnrEndW g' L' s₁ [(i' + 1, o1), (i', o2)] (fun m' n' => SubL [(wa, listOf (wvs l).toArray epw)] n' ∧ DJ l total wa ga epw epg rest (i + 1) (wvs rs) m' n') { s₁ with heap := h', toks := tk } := by
  refine endW_intro F N ((wa, listOf (wvs l).toArray epw) :: (ga, listOf (gvs l).toArray epg) :: (D', listOf (trf (acc ++ [(⟨a', k, t1, t2, t3⟩, row')])).toArray 0) :: (tlg (acc ++ [(⟨a', k, t1, t2, t3⟩, row')]) ++ rest)) ?_ ?_ (end_off ho1 ho2 ?_) ⟨⟨.head _, trivial⟩, ?_⟩
  · intro p hp
    rcases List.mem_cons.mp hp with rfl | hp
    · exact hi1
    · rw [List.mem_singleton.mp hp]; exact hi2
  · intro p hp
    simp only [List.mem_cons, List.mem_append, tlg, trf, List.map_append, List.map_cons, List.map_nil, List.not_mem_nil, or_false] at hp hD hacc
    rcases hp with rfl | rfl | rfl | (hp | rfl) | hp
    · exact hW
    · exact hG
    · exact hD
    · exact hacc p (.inl hp)
    · exact ha'
    · exact hacc p (.inr hp)
  · intro p hp
    simp only [List.mem_cons, List.mem_append, tlg, List.mem_map] at hp
    rcases hp with rfl | rfl | rfl | ⟨e, _, rfl⟩ | hp
    · exact .inl rfl
    · exact .inl rfl
    · exact .inl rfl
    · exact .inr (.inl rfl)
    · exact .inr (.inr (hI p hp))
  · refine ⟨dn ++ [((g, wd, W), tw, tg)], rs, T ++ g ++ W, tt, bb, by rw [e1]; simp, by rw [e2]; simp, rfl, text_next e4, m1, m2, m3, m4, .inl ⟨D', acc ++ [(⟨a', k, t1, t2, t3⟩, row')], 0, m5, fun p hp => hp, by simp [ha], ?_⟩⟩
    have hn : ((T ++ g).length : Int) = (T.length : Int) + (g.length : Int) := by rw [len_app]; omega
    rw [hn] at hr
    rw [ht]
    refine (prep_row (rows := acc.map (·.2)) (x := (g, wd, W)) (r := its rs) hr).trans ?_
    rw [hb, List.map_append]
    have hn2 : ((T ++ g ++ W).length : Int) = (T.length : Int) + (g.length : Int) + (W.length : Int) := by rw [len_app, len_app]; omega
    rw [hn2]
    rfl
theorem end_msg {acc : List TEnt} {msg : Str} {tm : Tok} (F : Fr g' L' h' m') (N : News g' L' h' all)
    (hW : (wa, listOf (wvs l).toArray epw) ∈ all) (hG : (ga, listOf (gvs l).toArray epg) ∈ all) (hacc : ∀ p ∈ tlg acc ++ rest, p ∈ all) (hi1 : (i' + 1, o1) ∈ all) (hi2 : (i', o2) ∈ all)
    (ho1 : o1.cls = .type "enumerate") (ho2 : o2.cls = .type "list_iterator") (hI : ∀ p ∈ rest, @LT.lt Nat _ p.1 i')
    (m1 : m' (Str.ofString "text") = some (.str (T ++ g ++ W) tt)) (m2 : m' (Str.ofString "is_behind") = some (.bool bb)) (m3 : m' (Str.ofString "words") = some (.ref wa)) (m4 : m' (Str.ofString "gaps") = some (.ref ga)) (m5 : m' (Str.ofString "due") = some (.str msg tm))
    (e1 : l = dn ++ ((g, wd, W), tw, tg) :: rs) (e2 : i = dn.length) (e4 : cds T = textOf (its dn)) (ht : total = .inl msg) :
    UnrEndW g' L' s₁ [(i' + 1, o1), (i', o2)] (fun m' n' => SubL [(wa, listOf (wvs l).toArray epw)] n' ∧ DJ l total wa ga epw epg rest (i + 1) (wvs rs) m' n') { s₁ with heap := h', toks := tk } := by
  refine endW_intro F N ((wa, listOf (wvs l).toArray epw) :: (ga, listOf (gvs l).toArray epg) :: rest) ?_ ?_ (end_off ho1 ho2 ?_) ⟨⟨.head _, trivial⟩, ?_⟩
  · intro p hp
    rcases List.mem_cons.mp hp with rfl | hp
    · exact hi1
    · rw [List.mem_singleton.mp hp]; exact hi2
  · intro p hp
    rcases List.mem_cons.mp hp with rfl | hp
    · exact hW
    · rcases List.mem_cons.mp hp with rfl | hp
      · exact hG
      · exact hacc p (List.mem_append_right _ hp)
  · intro p hp
    rcases List.mem_cons.mp hp with rfl | hp
    · exact .inl rfl
    · rcases List.mem_cons.mp hp with rfl | hp
      · exact .inl rfl
      · exact .inr (.inr (hI p hp))
  · exact ⟨dn ++ [((g, wd, W), tw, tg)], rs, T ++ g ++ W, tt, bb, by rw [e1]; simp, by rw [e2]; simp, rfl, text_next e4, m1, m2, m3, m4, .inr ⟨msg, tm, m5, fun p hp => hp, ht⟩⟩
end
theorem hb1 {k W : Str} {x : Bool} (h1 : (k == Str.ofString "sign") = true) (h2 : (k != Str.ofString "operator") = true) (hx : x = [Str.ofString "@", Str.ofString "::", Str.ofString "(", Str.ofString "[", Str.ofString ","].any fun x => x == W) : (!x) = behF k W := by
  unfold behF; rw [h1, ← hx]; simp only [bne, Bool.not_eq_true'] at h2; rw [h2]; cases x <;> rfl
theorem hb2 {k W : Str} (h2 : (k != Str.ofString "operator") = false) : (k != Str.ofString "operator") = behF k W := by
  rw [h2]; unfold behF; simp only [bne, Bool.not_eq_false'] at h2; rw [h2]; rfl
theorem hb3 {k W : Str} (h1 : (k == Str.ofString "sign") = false) (h2 : (k != Str.ofString "operator") = true) : (!(k == Str.ofString "sign")) = behF k W := by
  unfold behF; rw [h1]; simp only [bne, Bool.not_eq_true'] at h2; rw [h2]; rfl
theorem due_c (w : World) (wa ga : Addr) (l : List LI) (epw epg : Nat) (rest : List (Addr × Obj)) (hok : Ok (its l)) (hl : l.length ≤ 8) (h0 : l ≠ []) :
    Con w 4 160 327 [.ref wa, .ref ga] ((wa, listOf (wvs l).toArray epw) :: (ga, listOf (gvs l).toArray epg) :: rest)
      (fun R => ∀ T, cds T = textOf (its l) → (∀ rows, dueR (its l) false 0 = .inr rows → ∀ tp t n d acc ep, acc.map (·.2) = rows → acc.length ≤ 9 → R (.ref tp) ((tp, tupD T t (.ref d) n) :: (d, listOf (trf acc).toArray ep) :: (wa, listOf (wvs l).toArray epw) :: (ga, listOf (gvs l).toArray epg) :: (tlg acc ++ rest))) ∧
        (∀ m, dueR (its l) false 0 = .inl m → ∀ tp t n t2, R (.ref tp) ((tp, tupD T t (.str m t2) n) :: (wa, listOf (wvs l).toArray epw) :: (ga, listOf (gvs l).toArray epg) :: rest))) (fun _ => True) := by
  (unfold Con; intro mean mg mb dp un gd cn cs a ccd cl outer A₀ base h₀ L m s Q E B F X N T hk hd hu hret hex)
  (refine wpAny_call ?_; k_dflt (refine' code_def ?k1 ?k2 ?k3 ?k4 ?k5 ?kA ?kF ?kK ?k6 ?k7 ?k8 ?k9 ?kB ?_ ?c2 ?c3 ?c4 ?c5; (case kA => exact rfl); (case kF => exact rfl); (case kK => assumption); (case k1 => k_asm); (case k2 => k_asm); (case k3 => k_asm); (case k4 => first | k_asm | exact drop1 (by k_asm) | exact drop2 (by k_asm)); (case k5 => k_asm); (case k6 => k_is); (case k7 => k_is); (case k8 => ktr_room); (case k9 => first | exact BindsTo.of_eq rfl | exact binds_K (by k_in) rfl (by k_is) rfl rfl rfl); (case c5 => decide); (case kB => exact locs rfl); (case c2 => exact rfl); (case c3 => exact rfl); (case c4 => exact rfl); k_whole; intro g' L' h' FG' F' N' B' X' T'))
  (revert FG' F' N' B' X' T'; revert B F X N T hk hd hu hret hex; revert mean mg mb dp un gd cn cs a ccd cl outer A₀ base h₀ L m s Q E g' L' h'; revert w wa ga l epw epg rest; refine ep7_one (by repeat' (first | exact ne_world | exact ne_sc | exact ⟨({} : Shared)⟩ | exact ⟨Wd.star⟩ | refine ne_pair ?_ ?_ | exact inferInstance)) ?_; generalize (hd1 (ep7 _ _)) = w, (hd1 (tl1 (ep7 _ _))) = wa, (hd1 (tl1 (tl1 (ep7 _ _)))) = ga, (hd1 (tl1 (tl1 (tl1 (ep7 _ _))))) = l, (hd1 (tl1 (tl1 (tl1 (tl1 (ep7 _ _)))))) = epw, (hd1 (tl1 (tl1 (tl1 (tl1 (tl1 (ep7 _ _))))))) = epg, (id1 (tl1 (tl1 (tl1 (tl1 (tl1 (tl1 (ep7 _ _)))))))) = rest; set_option tactic.hygienic false in intros; revert FG' F' N' B' X' T'; revert B F X N T hk hd hu hret hex; revert mean mg mb dp un gd cn cs a ccd cl outer A₀ base h₀ L m s Q E g' L' h'; refine amb_one ?_; generalize am0 (epA _) = mean, am1 (epA _) = mg, am2 (epA _) = mb, am3 (epA _) = dp, am4 (epA _) = un, am5 (epA _) = gd, am6 (epA _) = cn, am7 (epA _) = cs, am8 (epA _) = a, am9 (epA _) = ccd, am10 (epA _) = cl, am11 (epA _) = outer, am12 (epA _) = A₀, am13 (epA _) = base, am14 (epA _) = h₀, am15 (epA _) = L, am16 (epA _) = m, am17 (epA _) = s, am18 (epA _) = Q, am19 (epA _) = E, am20 (epA _) = g', am21 (epA _) = L', am22 (epA _) = h'; set_option tactic.hygienic false in intros; skip)
  ((try dsimp only); (try k_lift B'))
  k_steps
  unfold Hold
  have hI : ∀ p ∈ rest, @LT.lt Nat _ p.1 i' := fun p hp => l1 p (.tail _ (.tail _ (.tail _ (.tail _ hp))))
  refine enum_turns (J := DJ l (dueR (its l) false 0) wa ga epw epg rest) ?h0 ?hs _ 0 _ _ ?start
  case start =>
    refine ⟨[], l, Str.ofString "", _, false, rfl, rfl, rfl, rfl, rfl, rfl, rfl, rfl, .inl ⟨_, [], 0, rfl, ?_, rfl, (prep_nil _).symm⟩⟩
    intro p hp
    simp only [List.mem_cons, List.mem_append, tlg, List.map_nil, List.not_mem_nil, false_or] at hp ⊢
    rcases hp with h | h | h | h
    · exact .inr (.inr (.inl h))
    · exact .inr (.inr (.inr (.inl h)))
    · exact .inr (.inl h)
    · exact .inr (.inr (.inr (.inr h)))
  case h0 =>
    rintro i m news ⟨dn, rs, T, tt, b, e1, e2, e3, e4, m1, m2, m3, m4, hJ⟩ h tk F' N'
    have hrs : rs = [] := by cases rs with
      | nil => rfl
      | cons x rs => exact nomatch e3
    subst hrs
    rw [List.append_nil] at e1
    subst e1
    have hTl : T.length ≤ 56 := by
      have h1 := (text_lo hok).2
      rw [← e4, len_cds] at h1
      have : (its l).length = l.length := List.length_map ..
      omega
    rcases hJ with ⟨d, acc, ep, m5, sub, ha, ht⟩ | ⟨msg, tm, m5, sub, ht⟩
    · replace F' := fr_map (map_is m1 m5 m2 m3 m4) F'
      replace N' := sub_news N' sub
      have hta : (trf acc).length = l.length := by simp [trf, ha]
      clear m1 m2 m3 m4 m5 sub
      k_steps
      have hfin : dueR (its l) false 0 = .inr (acc.map (·.2) ++ [(Str.ofString "end", Str.ofString "", (T.length : Int))]) := ht
      refine' (hret T e4).1 _ hfin _ _ _ _ _ _ ?e1 ?e2 _ _ ?F (due_end1 (acc := acc) ?N ?a ?b ?c ?d ?e ?s)
      case F => k_asm
      case N => k_asm
      case a => k_mem
      case b => k_mem
      case c => k_mem
      case d => k_mem
      case e => k_mem
      case s => (intro p hp; repeat (first | exact hp | refine List.Mem.tail _ ?_))
      case e1 => simp
      case e2 => simp [ha]; omega
    · replace F' := fr_map (map_is m1 m5 m2 m3 m4) F'
      replace N' := sub_news N' sub
      clear m1 m2 m3 m4 m5 sub
      k_steps
      refine' (hret T e4).2 _ ht _ _ _ _ _ _ ?F (due_end2 ?N ?a ?d ?e ?s)
      case F => k_asm
      case N => k_asm
      case a => k_mem
      case d => k_mem
      case e => k_mem
      case s => (intro p hp; repeat (first | exact hp | refine List.Mem.tail _ ?_))
  case hs =>
    rename Fr _ _ _ _ => FZ
    rename News _ _ _ _ => NZ
    rename Heap => hZ
    clear l1 NZ FZ
    (revert hI; revert hZ tk i'; refine ep3_one (by repeat' (first | exact ne_world | exact ne_sc | exact ⟨({} : Shared)⟩ | exact ⟨Wd.star⟩ | refine ne_pair ?_ ?_ | exact inferInstance)) ?_; generalize (hd1 (ep3 _ _)) = hZ, (hd1 (tl1 (ep3 _ _))) = tk, (id1 (tl1 (tl1 (ep3 _ _)))) = i'; intro hI; skip)
    rintro i v r m news ⟨dn, rs, T, tt, b, e1, e2, e3, e4, m1, m2, m3, m4, hJ⟩ T' t' h tk hT' F'
    refine AllObj.cons fun o1 ho1 => AllObj.cons fun o2 ho2 => AllObj.nil fun N' => ?_
    cases rs with
    | nil => exact nomatch e3
    | cons x rs =>
      obtain ⟨⟨g, wd, W⟩, tw, tg⟩ := x
      injection e3 with e3 e3'
      subst e3 e3'
      dsimp only at hT' ho1 ho2
      have hx := hok (g, wd, W) (by rw [e1]; simp [its])
      have hw : IsW wd W := hx.2
      have hgl : g.length ≤ 2 := by have q : Gap g := hx.1; rcases q with q | q | q <;> rw [q] <;> decide +kernel
      have hWl : W.length ≤ 5 := by obtain ⟨_, _, _, _, _, _, _, h5, _⟩ := head_w (isW_mem hw); exact h5
      have hgi : (gvs l)[((i : Nat) : Int).toNat]? = some (.str g tg) := by rw [e1, e2]; simp [gvs]
      have hln : l.length = dn.length + 1 + rs.length := by rw [e1]; simp; omega
      have hTl : T.length ≤ 56 := by
        have h1 := (text_lo (l := its dn) fun y hy => hok y (by rw [e1]; simp [its] at hy ⊢; exact .inl hy)).2
        rw [← e4, len_cds] at h1
        have : (its dn).length = dn.length := List.length_map ..
        omega
      have hTg := len_app T g
      have hTgW := len_app (T ++ g) W
      have hsz : (wvs l).toArray.size = l.length := by simp [wvs]
      (revert e2 e4 m1 m2 m3 m4 F' ho1 ho2 N' e1 hT' hx hw hgl hWl hgi hln hTl hTg hTgW hsz hJ; revert i m news dn T tt b T' t' h tk o1 o2 rs g wd W tw tg; refine ep19_one (by repeat' (first | exact ne_world | exact ne_sc | exact ⟨({} : Shared)⟩ | exact ⟨Wd.star⟩ | refine ne_pair ?_ ?_ | exact inferInstance)) ?_; generalize (hd1 (ep19 _ _)) = i, (hd1 (tl1 (ep19 _ _))) = m, (hd1 (tl1 (tl1 (ep19 _ _)))) = news, (hd1 (tl1 (tl1 (tl1 (ep19 _ _))))) = dn, (hd1 (tl1 (tl1 (tl1 (tl1 (ep19 _ _)))))) = T, (hd1 (tl1 (tl1 (tl1 (tl1 (tl1 (ep19 _ _))))))) = tt, (hd1 (tl1 (tl1 (tl1 (tl1 (tl1 (tl1 (ep19 _ _)))))))) = b, (hd1 (tl1 (tl1 (tl1 (tl1 (tl1 (tl1 (tl1 (ep19 _ _))))))))) = T', (hd1 (tl1 (tl1 (tl1 (tl1 (tl1 (tl1 (tl1 (tl1 (ep19 _ _)))))))))) = t', (hd1 (tl1 (tl1 (tl1 (tl1 (tl1 (tl1 (tl1 (tl1 (tl1 (ep19 _ _))))))))))) = h, (hd1 (tl1 (tl1 (tl1 (tl1 (tl1 (tl1 (tl1 (tl1 (tl1 (tl1 (ep19 _ _)))))))))))) = tk, (hd1 (tl1 (tl1 (tl1 (tl1 (tl1 (tl1 (tl1 (tl1 (tl1 (tl1 (tl1 (ep19 _ _))))))))))))) = o1, (hd1 (tl1 (tl1 (tl1 (tl1 (tl1 (tl1 (tl1 (tl1 (tl1 (tl1 (tl1 (tl1 (ep19 _ _)))))))))))))) = o2, (hd1 (tl1 (tl1 (tl1 (tl1 (tl1 (tl1 (tl1 (tl1 (tl1 (tl1 (tl1 (tl1 (tl1 (ep19 _ _))))))))))))))) = rs, (hd1 (tl1 (tl1 (tl1 (tl1 (tl1 (tl1 (tl1 (tl1 (tl1 (tl1 (tl1 (tl1 (tl1 (tl1 (ep19 _ _)))))))))))))))) = g, (hd1 (tl1 (tl1 (tl1 (tl1 (tl1 (tl1 (tl1 (tl1 (tl1 (tl1 (tl1 (tl1 (tl1 (tl1 (tl1 (ep19 _ _))))))))))))))))) = wd, (hd1 (tl1 (tl1 (tl1 (tl1 (tl1 (tl1 (tl1 (tl1 (tl1 (tl1 (tl1 (tl1 (tl1 (tl1 (tl1 (tl1 (ep19 _ _)))))))))))))))))) = W, (hd1 (tl1 (tl1 (tl1 (tl1 (tl1 (tl1 (tl1 (tl1 (tl1 (tl1 (tl1 (tl1 (tl1 (tl1 (tl1 (tl1 (tl1 (ep19 _ _))))))))))))))))))) = tw, (id1 (tl1 (tl1 (tl1 (tl1 (tl1 (tl1 (tl1 (tl1 (tl1 (tl1 (tl1 (tl1 (tl1 (tl1 (tl1 (tl1 (tl1 (tl1 (ep19 _ _)))))))))))))))))))) = tg; set_option tactic.hygienic false in intros; skip)
      rcases hJ with ⟨d, acc, ep, m5, sub, ha, ht⟩ | ⟨msg, tm, m5, sub, ht⟩
      · replace F' := fr_map (map_is m1 m5 m2 m3 m4) F'
        have N₂ := sub_news (a := (i' + 1, o1) :: (i', o2) :: (wa, listOf (wvs l).toArray epw) :: (ga, listOf (gvs l).toArray epg) :: (d, listOf (trf acc).toArray ep) :: (tlg acc ++ rest)) N' (by
          intro p hp
          simp only [List.mem_cons, List.mem_append] at hp
          rcases hp with h | h | h
          · rw [h]; exact .head _
          · rw [h]; exact .tail _ (.head _)
          · exact .tail _ (.tail _ (sub p (by simpa [List.mem_cons, List.mem_append] using h))))
        clear N' sub
        clear m1 m2 m3 m4 m5
        have hta : (trf acc).length = dn.length := by simp [trf, ha]
        k_steps
        unfold Hold
        refine cut_str (fol (its rs)) (fun Qc hc => ?first) (fun tf tkf => ?cont)
        case first =>
          cases rs with
          | nil =>
            have hwi : True := trivial
            replace hln : l.length = dn.length + 1 := hln
            k_steps
            exact hc _ _
          | cons x2 rs =>
            obtain ⟨⟨g2, wd2, W2⟩, tw2, tg2⟩ := x2
            have hwi : (wvs l)[(((i : Nat) : Int) + 1).toNat]? = some (.str W2 tw2) := by
              have e : (((i : Nat) : Int) + 1).toNat = dn.length + 1 := by omega
              rw [e, e1]; simp [wvs]
            replace hln : l.length = dn.length + 1 + (rs.length + 1) := hln
            k_steps
            exact hc _ _
        case cont =>
          have hTn : ((T ++ g).length : Int) = (T.length : Int) + (g.length : Int) := by omega
          k_steps
          all_goals (
            unfold Hold
            first
            | (refine' end_row ?F ?N ?hD ?ha ?hW ?hG ?hacc ?i1 ?i2 ho1 ho2 hI ?m1 ?m2 ?m3 ?m4 ?m5 e1 e2 e4 ha ht hr' ?hb; (case F => k_asm); (case N => k_asm); (case hD => k_mem); (case ha => k_mem); (case hW => k_mem); (case hG => k_mem); (case i1 => k_mem); (case i2 => k_mem); (case hacc => (intro p hp; repeat (first | exact hp | refine List.Mem.tail _ ?_))); (case m1 => exact rfl); (case m2 => exact rfl); (case m3 => exact rfl); (case m4 => exact rfl); (case m5 => exact rfl); (case hb => first | exact hb1 (by assumption) (by assumption) rfl | exact hb2 (by assumption) | exact hb3 (by assumption) (by assumption)))
            | (refine' end_msg (acc := acc) ?F ?N ?hW ?hG ?hacc ?i1 ?i2 ho1 ho2 hI ?m1 ?m2 ?m3 ?m4 ?m5 e1 e2 e4 (ht.trans (prep_msg (x := (g, wd, W)) (r := its rs) (by rw [← hTn]; exact hm'))); (case F => k_asm); (case N => k_asm); (case hW => k_mem); (case hG => k_mem); (case i1 => k_mem); (case i2 => k_mem); (case hacc => (intro p hp; repeat (first | exact hp | refine List.Mem.tail _ ?_))); (case m1 => exact rfl); (case m2 => exact rfl); (case m3 => exact rfl); (case m4 => exact rfl); (case m5 => exact rfl)))
      · replace F' := fr_map (map_is m1 m5 m2 m3 m4) F'
        have N₂ := sub_news (a := (i' + 1, o1) :: (i', o2) :: (wa, listOf (wvs l).toArray epw) :: (ga, listOf (gvs l).toArray epg) :: rest) N' (by
          intro p hp
          simp only [List.mem_cons] at hp
          rcases hp with h | h | h
          · rw [h]; exact .head _
          · rw [h]; exact .tail _ (.head _)
          · exact .tail _ (.tail _ (sub p (by simpa [List.mem_cons] using h))))
        clear N' sub
        clear m1 m2 m3 m4 m5
        k_steps
        unfold Hold
        refine cut_str (fol (its rs)) (fun Qc hc => ?first) (fun tf tkf => ?cont)
        case first =>
          cases rs with
          | nil =>
            have hwi : True := trivial
            replace hln : l.length = dn.length + 1 := hln
            k_steps
            exact hc _ _
          | cons x2 rs =>
            obtain ⟨⟨g2, wd2, W2⟩, tw2, tg2⟩ := x2
            have hwi : (wvs l)[(((i : Nat) : Int) + 1).toNat]? = some (.str W2 tw2) := by
              have e : (((i : Nat) : Int) + 1).toNat = dn.length + 1 := by omega
              rw [e, e1]; simp [wvs]
            replace hln : l.length = dn.length + 1 + (rs.length + 1) := hln
            k_steps
            exact hc _ _
        case cont =>
          k_steps
          all_goals (
            unfold Hold
            refine' end_msg (acc := []) ?F ?N ?hW ?hG ?hacc ?i1 ?i2 ho1 ho2 hI ?m1 ?m2 ?m3 ?m4 ?m5 e1 e2 e4 ht
            (case F => k_asm); (case N => k_asm); (case hW => k_mem); (case hG => k_mem); (case i1 => k_mem); (case i2 => k_mem); (case hacc => (intro p hp; repeat (first | exact hp | refine List.Mem.tail _ ?_))); (case m1 => exact rfl); (case m2 => exact rfl); (case m3 => exact rfl); (case m4 => exact rfl); (case m5 => exact rfl))

-- E1
theorem hk509 : True := by
  k_with_none
  exact True.intro
theorem hk504 : True := by
  k_with "mine k_all" => (assumption)
  exact True.intro
theorem hk505 : True := by
  k_with "mine units_room" => (ktr_units)
  exact True.intro
theorem right_facts {l : List LI} (hok : Ok (its l)) (hl : l.length ≤ 8) {T : Str} (hT : cds T = textOf (its l)) : T.length ≤ 1000 ∧ (∀ c ∈ T.cps.toList, c < 128) ∧ ∃ cnt, cnt ≤ 100 ∧ Runs cnt false (0 + (spN T.cps.toList : Int)) (T.cps.toList.drop (spN T.cps.toList)) (dueR (its l) false 0) := by
  have h1 := text_lo hok
  have h2 := run_all (its l) hok false 0
  have hl' : (its l).length = l.length := List.length_map ..
  rw [← hT] at h1 h2
  obtain ⟨cnt, hc, R⟩ := h2
  refine ⟨?_, h1.1, cnt, by omega, R⟩
  have := len_cds T
  omega
theorem right_news {g h : Heap} {L li d : Addr} {o o1 : Obj} {q a b : Addr × Obj} {x y rest : List (Addr × Obj)} (N : News g L h ((li, o) :: (x ++ q :: (d, o1) :: a :: b :: (y ++ rest)))) : News g L h ((li, o) :: (d, o1) :: a :: b :: (x ++ (y ++ rest))) := sub_news N fun p hp => by
  simp only [List.mem_cons, List.mem_append] at hp ⊢
  rcases hp with h | h | h | h | h | h | h
  · exact .inl h
  · exact .inr (.inr (.inr (.inl h)))
  · exact .inr (.inr (.inr (.inr (.inl h))))
  · exact .inr (.inr (.inr (.inr (.inr (.inl h)))))
  · exact .inr (.inl h)
  · exact .inr (.inr (.inr (.inr (.inr (.inr (.inl h))))))
  · exact .inr (.inr (.inr (.inr (.inr (.inr (.inr h))))))
theorem hk506 : True := by
  k_with "mine call ref" => ((k_here; (k_dflt (show wpAny _ _ (call (Value.ref 327) _) _ _ _)); k_dflt (refine' useU (C := due_c _ _ _ l _ _ _ hok hl h0) (hp := ?_)); intro T' hT'; obtain ⟨f1', f2', cnt', f3', f4'⟩ := right_facts hok hl hT'; (refine' ⟨?_, ?_⟩; (intro rows' hr' tp' t' n' d' acc' ep' hacc' hlen' h' tk' F' N'); rotate_left; (intro m' hm' tp' t' n' t2' h' tk' F' N'); rotate_left)))
  exact True.intro
theorem hk507 : True := by
  k_with "mine call ref" => ((k_here; (k_dflt (show wpAny _ _ (call (Value.ref 306) [Value.str _ _]) _ _ _)); k_dflt (refine' useT (heard_c _ _ _ _ f1' f2' _ f3' _ f4') ?k1 ?k2 ?k3 ?k4 ?k5 ?Xb ?Tb ?k6 ?kd ?ku ?_; (case k1 => k_asm); (case k2 => k_asm); (case k3 => k_asm); (case k4 => k_asm); (case k5 => k_asm); (case Xb => assumption); (case Tb => assumption); (case k6 => first | exact rfl | assumption); (case kd => ktr_room); (case ku => ktr_units)); (refine' ⟨?_, ?_⟩; (intro rows2 hr2 li l2 hl2 hl2' h₁ h' tk' t₁ B₁ X₁ T₁ F' N'; (first | exact inl_inr (hm'.symm.trans hr2) | (replace N' := right_news N'; (have hE : l2.map (·.2) = acc'.map (·.2) := by (rw [hl2, hacc']; exact Sum.inr.inj (hr2.symm.trans hr'))); (have hOk : ∀ r ∈ l2.map (·.2), okR r := hl2 ▸ dueR_ok hok _ _ hr2)))); rotate_left; (intro m2 hm2 t2 h₁ h' tk' t₁ B₁ X₁ T₁ F' N'; (first | exact inl_inr (hm2.symm.trans hr') | (have e2 := Sum.inl.inj (hm2.symm.trans hm'); subst e2)))); rotate_left))
  exact True.intro
theorem hk508 : True := by
  k_with "mine compareOp Eq ref ref" => ((k_here; k_dflt (refine' eq_rows (l1 := l2) (l2 := acc') ?N ?a ?b ?h1 ?h2 hE hOk ?hu ?_; (case N => k_asm); (case a => k_mem); (case b => k_mem); (case hu => ktr_units); (case h1 => exact fun p hp => .tail _ (.tail _ (.tail _ (.tail _ (List.mem_append_left _ hp))))); (case h2 => exact fun p hp => .tail _ (.tail _ (.tail _ (.tail _ (List.mem_append_right _ (List.mem_append_left _ hp)))))))))
  exact True.intro
theorem right_c (w : World) (wa ga : Addr) (l : List LI) (epw epg : Nat) (rest : List (Addr × Obj)) (hok : Ok (its l)) (hl : l.length ≤ 8) (h0 : l ≠ []) :
    ConT w 14 430 341 [.ref wa, .ref ga] ((wa, listOf (wvs l).toArray epw) :: (ga, listOf (gvs l).toArray epg) :: rest)
      (fun R => R (.bool true) ((wa, listOf (wvs l).toArray epw) :: (ga, listOf (gvs l).toArray epg) :: rest)) := by
  (unfold ConT; intro mean mg mb dp un gd cn cs a ccd cl outer A₀ base h₀ L m s Q E B F X N T Xb Tb hk hd hu hret)
  (refine wpAny_call ?_; k_dflt (refine' code_defT ?k1 ?k2 ?k3 ?k4 ?k5 ?kA ?kF ?kK ?k6 ?k7 ?k8 ?k9 ?kB ?_ ?c2 ?c3 ?c4 ?c5; (case kA => exact rfl); (case kF => exact rfl); (case kK => assumption); (case k1 => k_asm); (case k2 => k_asm); (case k3 => k_asm); (case k4 => first | k_asm | exact drop1 (by k_asm) | exact drop2 (by k_asm)); (case k5 => k_asm); (case k6 => k_is); (case k7 => k_is); (case k8 => ktr_room); (case k9 => first | exact BindsTo.of_eq rfl | exact binds_K (by k_in) rfl (by k_is) rfl rfl rfl); (case c5 => decide); (case kB => exact locs rfl); (case c2 => exact rfl); (case c3 => exact rfl); (case c4 => exact rfl); k_whole; intro g' L' h' FG' F' N' B' X' T'; (try dsimp only); (try k_lift B'); (try k_fold)))
  k_steps
  all_goals (
    (try rw [beq_self_eq_true])
    refine' leaveT_end B Xb Tb hret t₁ ?F ?N ?sub
    case F => k_asm
    case N => k_asm
    case sub =>
      intro p hp
      simp only [List.mem_cons] at hp
      rcases hp with rfl | rfl | hp
      · k_mem
      · k_mem
      · repeat (first | exact hp | exact List.mem_append_right _ (List.mem_append_right _ hp) | refine List.Mem.tail _ ?_))

-- F0
theorem hk512 : True := by
  k_with_none
  exact True.intro
section
open PySem.SeqAt
theorem hk510 : True := by
  k_with "mine k_all" => (assumption)
  exact True.intro
theorem hk511 : True := by
  k_with "mine units_room" => (ktr_units)
  exact True.intro
theorem star3 : ∃ cnt, cnt ≤ 100 ∧ Runs cnt false (0 + (spN (Str.ofString "* * *").cps.toList : Int)) ((Str.ofString "* * *").cps.toList.drop (spN (Str.ofString "* * *").cps.toList)) (.inr [(Str.ofString "name", Str.ofString "*", 0), (Str.ofString "operator", Str.ofString "*", 2), (Str.ofString "name", Str.ofString "*", 4), (Str.ofString "end", Str.ofString "", 5)]) := by
  have hs : IsW .star (Str.ofString "*") := .inl (by unfold othersL; exact .head _)
  have hr : Ok [(Str.ofString " ", Wd.star, Str.ofString "*"), (Str.ofString " ", Wd.star, Str.ofString "*")] := by
    intro x hx
    rcases List.mem_cons.mp hx with rfl | hx
    · exact ⟨.inl rfl, hs⟩
    · rw [List.mem_singleton.mp hx]; exact ⟨.inl rfl, hs⟩
  obtain ⟨cnt, hc, R⟩ := run_step hs hr (run_all _ hr) false 0
  refine ⟨cnt, Nat.le_trans hc (by decide), ?_⟩
  have e1 : spN (Str.ofString "* * *").cps.toList = 0 := by decide +kernel
  have e2 : (Str.ofString "* * *").cps.toList = cds (Str.ofString "*") ++ textOf [(Str.ofString " ", Wd.star, Str.ofString "*"), (Str.ofString " ", Wd.star, Str.ofString "*")] := by decide +kernel
  have e3 : dueW .star (Str.ofString "*") [(Str.ofString " ", Wd.star, Str.ofString "*"), (Str.ofString " ", Wd.star, Str.ofString "*")] false 0 = .inr [(Str.ofString "name", Str.ofString "*", 0), (Str.ofString "operator", Str.ofString "*", 2), (Str.ofString "name", Str.ofString "*", 4), (Str.ofString "end", Str.ofString "", 5)] := by decide +kernel
  rw [e1, List.drop_zero, e2, ← e3]
  exact R
abbrev rows4 : List RowT := [(Str.ofString "name", Str.ofString "*", 0), (Str.ofString "operator", Str.ofString "*", 2), (Str.ofString "name", Str.ofString "*", 4), (Str.ofString "end", Str.ofString "", 5)]
theorem len3 : (Str.ofString "* * *").length ≤ 1000 := by decide +kernel
theorem lo3 : ∀ c ∈ (Str.ofString "* * *").cps.toList, c < 128 := by decide +kernel
section
variable {w : World} {mean : ExcName → Option Value} {mg mb : Str → Option Value} {dp un : Nat} {gd : Option (List Code)} {cn : Str} {cs : Scope} {a : Addr} {ccd : Value} {cl : List (Str × Addr)} {A₀ : Around} {base h₀ : Heap} {L : Addr} {m : Str → Option Value} {s : Shared} {Q E : Value → Shared → Prop} {news : List (Addr × Obj)}
abbrev tk3 (k x : Str) (n : Int) (t1 t2 t3 : Tok) (j : Nat) : Obj := { cls := .type "tuple", data := .seq #[.str k t1, .str x t2, .int n t3] j }
/-- `_law_heard('* * *')` in the law's own frame -/
theorem heard_law {t : Tok} (B : Below A₀ base [] h₀) (F : Fr h₀ L s.heap m) (X : (KV w.params).In h₀) (N : News h₀ L s.heap news) (T : Top VV (looseW VV []) mean mg mb h₀) (Xb : (KV w.params).In base) (Tb : Top VV (looseW VV []) mean mg mb base) (hk : cs.kind = .function) (hdp : dp + 10 < recursionLimit) (hun : un + 260 < cLine)
    (h : ∀ (li : Addr) (l : List TEnt) (h' : Heap) (tk' : Nat), l.map (·.2) = rows4 → l.length = 4 → Fr h₀ L h' m → News h₀ L h' ((li, LCg.lst (trf l)) :: (tlg l ++ news)) → Q (.ref li) { s with heap := h', toks := tk' }) :
    wpAny (model PySem.Challenge.pw_xw0211_01 w) (ktrTop dp un gd cn cs L a ccd cl []) (call (.ref 306) [.str (Str.ofString "* * *") t]) Q E s := by
  obtain ⟨cnt, hc, R⟩ := star3
  refine useT (heard_c w _ _ news len3 lo3 cnt hc _ R) B F X N T Xb Tb hk hdp hun ⟨fun rows hr li l hl _ => ?_, fun m hm => inl_inr hm.symm⟩
  obtain rfl := Sum.inr.inj hr
  have h4 : l.length = 4 := by have := congrArg List.length hl; simpa using this
  exact fun h₁ h' tk' t₁ _ _ _ F' N' => h li l h' tk' hl h4 (turn_nil t₁ F') (turn_news t₁ N')
/-- lists of words and of blanks, side by side -/
inductive Pairs : List Value → List Value → Prop
  | nil : Pairs [] []
  | cons (W g : Str) (t t' : Tok) (ws gs : List Value) (hw : W ∈ menuW) (hg : Gap g) (h : Pairs ws gs) : Pairs (.str W t :: ws) (.str g t' :: gs)
theorem Pairs.lists {ws gs : List Value} (h : Pairs ws gs) : ∃ l : List LI, wvs l = ws ∧ gvs l = gs ∧ Ok (its l) ∧ l.length = ws.length := by
  induction h with
  | nil => exact ⟨[], rfl, rfl, fun _ h => (nomatch h), rfl⟩
  | cons W g t t' ws gs hw hg _ ih =>
    obtain ⟨l, e1, e2, e3, e4⟩ := ih
    obtain ⟨wd, hwd⟩ := isW_of hw
    refine ⟨((g, wd, W), t, t') :: l, by rw [← e1]; rfl, by rw [← e2]; rfl, fun x hx => ?_, by rw [List.length_cons, List.length_cons, e4]⟩
    rcases List.mem_cons.mp hx with rfl | hx
    · exact ⟨hg, hwd⟩
    · exact e3 x hx
/-- `_law_right` in the law's own frame -/
theorem right_law {wa ga : Addr} {ws gs : List Value} {epw epg : Nat} (B : Below A₀ base [] h₀) (F : Fr h₀ L s.heap m) (X : (KV w.params).In h₀) (N : News h₀ L s.heap news) (T : Top VV (looseW VV []) mean mg mb h₀) (Xb : (KV w.params).In base) (Tb : Top VV (looseW VV []) mean mg mb base) (hk : cs.kind = .function) (hdp : dp + 14 < recursionLimit) (hun : un + 430 < cLine)
    (hw : (wa, listOf ws.toArray epw) ∈ news) (hg : (ga, listOf gs.toArray epg) ∈ news) (hp : Pairs ws gs) (hl : ws.length ≤ 8) (h0 : 0 < ws.length) (h : ∀ (h' : Heap) (tk' : Nat), Fr h₀ L h' m → News h₀ L h' news → Q (.bool true) { s with heap := h', toks := tk' }) :
    wpAny (model PySem.Challenge.pw_xw0211_01 w) (ktrTop dp un gd cn cs L a ccd cl []) (call (.ref 341) [.ref wa, .ref ga]) Q E s := by
  obtain ⟨l, rfl, rfl, e3, e4⟩ := hp.lists
  have N2 : News h₀ L s.heap ((wa, listOf (wvs l).toArray epw) :: (ga, listOf (gvs l).toArray epg) :: news) := two_news N hw hg
  have hne : l ≠ [] := fun q => by rw [q] at h0; exact absurd h0 (Nat.lt_irrefl 0)
  exact useT (right_c w wa ga l epw epg news e3 (by omega) hne) B F X N2 T Xb Tb hk hdp hun fun h₁ h' tk' t₁ _ _ _ F' N' => h h' tk' (turn_nil t₁ F') (drop2 (turn_news t₁ N'))
end
/-- the heads `word[:2]` -/
structure Tk2 where
  a : Addr
  n : Nat
  t1 : Tok
  t2 : Tok
abbrev PEnt := Tk2 × Str × Str
abbrev pO (e : PEnt) : Obj := { cls := .type "tuple", data := .seq #[.str e.2.1 e.1.t1, .str e.2.2 e.1.t2] e.1.n }
def plg (l : List PEnt) : List (Addr × Obj) := l.map fun e => (e.1.a, pO e)
def prf (l : List PEnt) : List Value := l.map fun e => .ref e.1.a
def TJ (l : List TEnt) (base : List (Addr × Obj)) (k i : Nat) (ys : List Value) (nw : List (Addr × Obj)) : Prop :=
  ∃ (pre post : List TEnt) (done : List PEnt), l = pre ++ post ∧ k = post.length ∧ i = pre.length ∧ ys = prf done.reverse ∧ nw = plg done ++ base ∧ done.map (·.2) = (pre.map fun e => (e.2.1, e.2.2.1)).reverse
theorem TJ.start (l : List TEnt) (base : List (Addr × Obj)) {n : Nat} (hn : n = l.length) : TJ l base n 0 [] base := ⟨[], l, [], rfl, hn, rfl, rfl, rfl, rfl⟩
theorem TJ.done {l : List TEnt} {base : List (Addr × Obj)} {i : Nat} {ys : List Value} {nw : List (Addr × Obj)} (h : TJ l base 0 i ys nw) : ∃ d : List PEnt, ys = prf d ∧ nw = plg d.reverse ++ base ∧ d.map (·.2) = l.map fun e => (e.2.1, e.2.2.1) := by
  obtain ⟨pre, post, done, e1, e2, e3, e4, e5, e6⟩ := h
  have e7 : post = [] := List.eq_nil_of_length_eq_zero e2.symm
  rw [e7, List.append_nil] at e1
  exact ⟨done.reverse, e4, by rw [List.reverse_reverse]; exact e5, by rw [List.map_reverse, e6, List.reverse_reverse, e1]⟩
theorem TJ.next {l : List TEnt} {base : List (Addr × Obj)} {k i : Nat} {ys : List Value} {nw : List (Addr × Obj)} (h : TJ l base (k + 1) i ys nw) : ∃ e : TEnt, e ∈ l ∧ (∀ v, (trf l).toArray[i]? = some v → v = .ref e.1.a) ∧ (∃ d, nw = plg d ++ base) ∧ ∀ (U : Addr) (n : Nat) (t1 t2 : Tok), TJ l base k (i + 1) (ys ++ [.ref U]) ((U, { cls := .type "tuple", data := .seq #[.str e.2.1 t1, .str e.2.2.1 t2] n }) :: nw) := by
  obtain ⟨pre, post, done, e1, e2, e3, e4, e5, e6⟩ := h
  cases post with
  | nil => exact nomatch e2
  | cons e post =>
    refine ⟨e, ?_, ?_, ⟨_, e5⟩, fun U n t1 t2 => ⟨pre ++ [e], post, (⟨U, n, t1, t2⟩, (e.2.1, e.2.2.1)) :: done, by rw [e1]; simp, by simpa using e2, by rw [e3]; simp, by rw [e4]; simp [prf], by rw [e5]; rfl, by simp [e6]⟩⟩
    · rw [e1]; simp
    · intro v hv
      rw [e3, e1] at hv
      simp [trf] at hv
      exact hv.symm
theorem tlg_mem {l : List TEnt} {e : TEnt} (h : e ∈ l) : (e.1.a, tupO e) ∈ tlg l := List.mem_map.mpr ⟨e, h, rfl⟩
theorem one_news {g h : Heap} {L : Addr} {a : Addr × Obj} {q : List (Addr × Obj)} (N : News g L h q) (ha : a ∈ q) : News g L h (a :: q) := fun p hp => by
  rcases List.mem_cons.mp hp with rfl | hp
  · exact N _ ha
  · exact N _ hp
theorem turn_end1 {h₀ : Heap} {L I C D U : Addr} {m : Str → Option Value} {s : Shared} {oI oC oD o : Obj} {S : List (Addr × Obj) → Prop} {rest : Value → List (Addr × Obj) → Prop} {h' : Heap} {tk : Nat} {q1 : Addr × Obj} {nw : List (Addr × Obj)}
    (F : Fr h₀ L h' m) (N : News h₀ L h' ((U, o) :: q1 :: (I, oI) :: (C, oC) :: (D, oD) :: nw)) (o1 : @Ne Nat U I) (o2 : @Ne Nat U C) (o3 : @Ne Nat U D) (off : LCg.Off3 I C D nw) (hS : S ((U, o) :: nw)) (r : rest (.ref U) ((U, o) :: nw)) :
    LCg.CompEnd h₀ L m s I oI C oC D oD S rest (.ref U) { s with heap := h', toks := tk } :=
  LCg.CompEnd.intro F N ((U, o) :: nw) (fun p hp => by
    simp only [List.mem_cons] at hp ⊢
    rcases hp with h | h | h | h | h
    · exact .inr (.inr (.inl h))
    · exact .inr (.inr (.inr (.inl h)))
    · exact .inr (.inr (.inr (.inr (.inl h))))
    · exact .inl h
    · exact .inr (.inr (.inr (.inr (.inr h))))) ⟨⟨o1, o2, o3⟩, off⟩ hS r
theorem four2 {l : List PEnt} {a b c d : Str × Str} (h : l.map (·.2) = [a, b, c, d]) : ∃ k0 k1 k2 k3 : Tk2, l = [(k0, a), (k1, b), (k2, c), (k3, d)] := by
  rcases l with _ | ⟨⟨k0, r0⟩, _ | ⟨⟨k1, r1⟩, _ | ⟨⟨k2, r2⟩, _ | ⟨⟨k3, r3⟩, _ | ⟨x, l⟩⟩⟩⟩⟩
  · exact nomatch h
  · exact nomatch h
  · exact nomatch h
  · exact nomatch h
  · simp only [List.map_cons, List.map_nil, List.cons.injEq, and_true] at h
    obtain ⟨rfl, rfl, rfl, rfl⟩ := h
    exact ⟨k0, k1, k2, k3, rfl⟩
  · exact nomatch h
theorem heads4 {l : List TEnt} (h : l.map (·.2) = rows4) : (l.map fun e => (e.2.1, e.2.2.1)) = [(Str.ofString "name", Str.ofString "*"), (Str.ofString "operator", Str.ofString "*"), (Str.ofString "name", Str.ofString "*"), (Str.ofString "end", Str.ofString "")] := by
  have e : (l.map fun e => (e.2.1, e.2.2.1)) = (l.map (·.2)).map fun r => (r.1, r.2.1) := by rw [List.map_map]; rfl
  rw [e, h]; rfl
abbrev two (x y : Str) (s t : Tok) (j : Nat) : Obj := { cls := .type "tuple", data := .seq #[.str x s, .str y t] j }
def toldD : PyData := PyData.list [.tuple [.str (Str.ofString "name"), .str (Str.ofString "*")], .tuple [.str (Str.ofString "operator"), .str (Str.ofString "*")], .tuple [.str (Str.ofString "name"), .str (Str.ofString "*")], .tuple [.str (Str.ofString "end"), .str (Str.ofString "")]]
theorem ne_told {prog : Program} {w : World} {A : Around} {E : Value → Shared → Prop} {s : Shared} {h₀ : Heap} {L : Addr} {news : List (Addr × Obj)} {Q : Value → Shared → Prop} {a b xa0 xa1 xa2 xa3 ya0 ya1 ya2 ya3 : Addr} {xs0 xt0 xs1 xt1 xs2 xt2 xs3 xt3 ys0 yt0 ys1 yt1 ys2 yt2 ys3 yt3 : Tok} {n1 n2 xj0 xj1 xj2 xj3 yj0 yj1 yj2 yj3 : Nat} (N : News h₀ L s.heap news)
    (ha : (a, listOf #[.ref xa0, .ref xa1, .ref xa2, .ref xa3] n1) ∈ news) (hb : (b, listOf #[.ref ya0, .ref ya1, .ref ya2, .ref ya3] n2) ∈ news)
    (x0 : (xa0, two (Str.ofString "name") (Str.ofString "*") xs0 xt0 xj0) ∈ news) (x1 : (xa1, two (Str.ofString "operator") (Str.ofString "*") xs1 xt1 xj1) ∈ news) (x2 : (xa2, two (Str.ofString "name") (Str.ofString "*") xs2 xt2 xj2) ∈ news) (x3 : (xa3, two (Str.ofString "end") (Str.ofString "") xs3 xt3 xj3) ∈ news) (y0 : (ya0, two (Str.ofString "name") (Str.ofString "*") ys0 yt0 yj0) ∈ news) (y1 : (ya1, two (Str.ofString "operator") (Str.ofString "*") ys1 yt1 yj1) ∈ news) (y2 : (ya2, two (Str.ofString "name") (Str.ofString "*") ys2 yt2 yj2) ∈ news) (y3 : (ya3, two (Str.ofString "end") (Str.ofString "") ys3 yt3 yj3) ∈ news)
    (hu : A.units + 64 < cLine) (h : Q (.bool false) s) : wpAny (model prog w) A (compareOp .NotEq (.ref a) (.ref b)) Q E s := by
  have r1 : Reads s.heap (.ref a) toldD [a] := .list (as := []) (N _ ha).1 rfl rfl (.cons (as := []) (bs := []) (.tuple (N _ x0).1 rfl rfl (.cons (as := []) (bs := []) (.str _ _) (.cons (as := []) (bs := []) (.str _ _) .nil))) (.cons (as := []) (bs := []) (.tuple (N _ x1).1 rfl rfl (.cons (as := []) (bs := []) (.str _ _) (.cons (as := []) (bs := []) (.str _ _) .nil))) (.cons (as := []) (bs := []) (.tuple (N _ x2).1 rfl rfl (.cons (as := []) (bs := []) (.str _ _) (.cons (as := []) (bs := []) (.str _ _) .nil))) (.cons (as := []) (bs := []) (.tuple (N _ x3).1 rfl rfl (.cons (as := []) (bs := []) (.str _ _) (.cons (as := []) (bs := []) (.str _ _) .nil))) .nil))))
  have r2 : Reads s.heap (.ref b) toldD [b] := .list (as := []) (N _ hb).1 rfl rfl (.cons (as := []) (bs := []) (.tuple (N _ y0).1 rfl rfl (.cons (as := []) (bs := []) (.str _ _) (.cons (as := []) (bs := []) (.str _ _) .nil))) (.cons (as := []) (bs := []) (.tuple (N _ y1).1 rfl rfl (.cons (as := []) (bs := []) (.str _ _) (.cons (as := []) (bs := []) (.str _ _) .nil))) (.cons (as := []) (bs := []) (.tuple (N _ y2).1 rfl rfl (.cons (as := []) (bs := []) (.str _ _) (.cons (as := []) (bs := []) (.str _ _) .nil))) (.cons (as := []) (bs := []) (.tuple (N _ y3).1 rfl rfl (.cons (as := []) (bs := []) (.str _ _) (.cons (as := []) (bs := []) (.str _ _) .nil))) .nil))))
  have hs : shaped toldD = true := by decide +kernel
  refine ne_dataH r1 r2 hs hs hu ?_
  have e : (!PyData.eqv toldD toldD) = false := by decide +kernel
  rw [e]
  exact h
end

-- F2
section
variable {prog : Program} {w : World} {A : Around} {E : Value → Shared → Prop} {s : Shared} {env : Env} {h₀ : Heap} {target : Expr} {body : List Stmt} {Q : Flow → Shared → Prop}
theorem allObj_mono {ws : List (Addr × String)} {k k' : List (Addr × Obj) → Prop} (hk : ∀ its, k its → k' its) (h : AllObj ws k) : AllObj ws k' := by
  induction ws generalizing k k' with
  | nil => exact hk _ h
  | cons x r ih => exact fun o ho => ih (fun its q => hk _ q) (h o ho)
/-- the turns of a loop over a list by an invariant -/
theorem list_turns {ws : List (Addr × String)} {keep : List (Addr × Obj)} (J : List Value → (Str → Option Value) → List (Addr × Obj) → Prop)
    (h0 : ∀ m news, J [] m news → ∀ h tk, Fr h₀ env.locals h m → News h₀ env.locals h news → Q .next { s with heap := h, toks := tk })
    (hs : ∀ v r m news, J (v :: r) m news → ∀ h tk, Fr h₀ env.locals h m → AllObj ws (fun its => News h₀ env.locals h (its ++ news) →
      wpAny (model prog w) A (assign target env v) (fun _ s₂ => wpAny (model prog w) A (execs body env) (UnrPostW h₀ env.locals { s with heap := h, toks := tk } its (fun m' n' => SubL keep n' ∧ J r m' n') Q) E s₂) E { s with heap := h, toks := tk })) :
    ∀ vs m news, J vs m news → ItemsRest prog w A E h₀ env target body Q s ws keep (vs.map .val) m news
  | [], m, news, j => h0 m news j
  | v :: r, m, news, j => ItemsRest.val fun h tk F => allObj_mono (fun its H N => wpAny_mono (H N) (fun _ s₂ h₂ => wpAny_mono h₂ (fun f s₃ p => postW_mono (fun m' n' q => ⟨q.1, list_turns J h0 hs r m' n' q.2⟩) p) fun _ _ e => e) fun _ _ e => e) (hs v r m news j h tk F)
theorem end_mono {L I : Addr} {it : Obj} {s₁ s₂ : Shared} {R R' : (Str → Option Value) → List (Addr × Obj) → Prop} (hR : ∀ m n, R m n → R' m n) (h : UnrEnd h₀ L s₁ I it R s₂) : UnrEnd h₀ L s₁ I it R' s₂ := by
  obtain ⟨h', tk, m', news', e, F, N, o, r⟩ := h
  exact ⟨h', tk, m', news', e, F, N, o, hR _ _ r⟩
theorem post_mono {L I : Addr} {it : Obj} {s₁ s₂ : Shared} {R R' : (Str → Option Value) → List (Addr × Obj) → Prop} {f : Flow} (hR : ∀ m n, R m n → R' m n) (h : UnrPost h₀ L s₁ I it R Q f s₂) : UnrPost h₀ L s₁ I it R' Q f s₂ := by
  cases f with
  | ret v => exact h
  | brk => exact h
  | next => exact end_mono hR h
  | cont => exact end_mono hR h
/-- the turns of a loop over a range by an invariant -/
theorem range_turns {x : Str} {I : Addr} {a : Int} {n : Nat} (J : (Str → Option Value) → List (Addr × Obj) → Prop)
    (h0 : ∀ m news, J m news → ∀ h tk, Fr h₀ env.locals h m → News h₀ env.locals h news → Q .next { s with heap := h, toks := tk })
    (hs : ∀ i m news, J m news → ∀ t h tk it, Fr h₀ env.locals h (fun y => if y = x then some (.int (a + (i : Int)) t) else m y) → News h₀ env.locals h ((I, it) :: news) →
      wpAny (model prog w) A (execs body env) (UnrPost h₀ env.locals { s with heap := h, toks := tk } I it J Q) E { s with heap := h, toks := tk }) :
    ∀ k i m news, J m news → RangeRest prog w A E h₀ env x body Q s I a n k i m news
  | 0, i, m, news, j => h0 m news j
  | k + 1, i, m, news, j => RangeRest.succ fun t h tk F N => wpAny_mono (hs i m news j t h tk _ F N) (fun f s₃ p => post_mono (fun m' n' q => range_turns J h0 hs k (i + 1) m' n' q) p) fun _ _ e => e
theorem mul_one {L : Addr} {m : Str → Option Value} {news : List (Addr × Obj)} {Q : Value → Shared → Prop} {l : Addr} {v : Value} {k n : Nat} {u : Tok} (F : Fr h₀ L s.heap m) (N : News h₀ L s.heap news) (hl : (l, listOf #[v] k) ∈ news) (hn : n ≤ 100)
    (h : ∀ D h', Fr h₀ L h' m → News h₀ L h' ((D, listOf (List.replicate n v).toArray 0) :: news) → (∀ p ∈ news, p.1 < D) → Q (.ref D) { s with heap := h' }) : wpAny (model prog w) A (binaryOp .Mult (.ref l) (.int (n : Int) u)) Q E s := by
  refine KMa.mul (vs := [v]) (ws := List.replicate n v) F N (News.isList N hl) (by omega) (by omega) ?_ ?_ h
  · show 1 * ((n : Nat) : Int).toNat ≤ 256
    omega
  · rw [show ((n : Nat) : Int).toNat = n from rfl]
    simp
end
/-- a list of one to eight words of the menu -/
def GoodW (ws : List Value) : Prop := ws.length ≤ 8 ∧ 0 < ws.length ∧ ∀ v ∈ ws, ∃ W t, v = .str W t ∧ W ∈ menuW
theorem GoodW.pairs {ws : List Value} {t : Tok} (h : GoodW ws) : Pairs ws (List.replicate ws.toArray.size (.str (Str.ofString " ") t)) := by
  have key : ∀ ws : List Value, (∀ v ∈ ws, ∃ W t, v = .str W t ∧ W ∈ menuW) → Pairs ws (List.replicate ws.length (.str (Str.ofString " ") t)) := by
    intro ws
    induction ws with
    | nil => exact fun _ => .nil
    | cons v ws ih =>
      intro h
      obtain ⟨W, tw, rfl, hW⟩ := h v (.head _)
      exact .cons W _ tw t ws _ hW (.inl rfl) (ih fun v hv => h v (.tail _ hv))
  exact key ws h.2.2
theorem words_map {m0 : Str → Option Value} {u : Option Value} {v : Value} : (fun y => if y = Str.ofString "words" then some v else if y = Str.ofString "words" then u else m0 y) = fun y => if y = Str.ofString "words" then some v else m0 y := by
  funext y
  split <;> rfl
theorem endL_intro {h₀ : Heap} {L : Addr} {rest : (Str → Option Value) → List (Addr × Obj) → Prop} {s₁ : Shared} {h' : Heap} {tk : Nat} {m' : Str → Option Value} {all base : List (Addr × Obj)} {I : Addr} {o : Obj} (F : Fr h₀ L h' m') (N : News h₀ L h' all)
    (hI : (I, o) ∈ all) (sub : ∀ p ∈ base, p ∈ all) (off : ∀ p ∈ base, @LT.lt Nat _ p.1 I) (r : rest m' base) : UnrEndW h₀ L s₁ [(I, o)] rest { s₁ with heap := h', toks := tk } :=
  endW_intro F N base (fun p hp => by rw [List.mem_singleton.mp hp]; exact hI) sub (fun p hp q hq => by rw [List.mem_singleton.mp hq]; exact .inl (Nat.ne_of_lt (off p hp))) r
section
variable {prog : Program} {w : World} {A : Around} {E : Value → Shared → Prop} {s : Shared} {env : Env} {h₀ : Heap} {target : Expr} {body : List Stmt} {Q : Flow → Shared → Prop}
/-- the loop over written lists of words -/
theorem some_loop {m0 : Str → Option Value} {base : List (Addr × Obj)} {vs : List Value} {la : Addr} {lo : Obj} {I : Addr} (hkeep : (la, lo) ∈ base) (hI : ∀ p ∈ base, @LT.lt Nat _ p.1 I)
    (hgood : ∀ v ∈ vs, ∃ a ws ep, v = .ref a ∧ (a, listOf ws.toArray ep) ∈ base ∧ GoodW ws)
    (h0 : ∀ u h tk, Fr h₀ env.locals h (fun y => if y = Str.ofString "words" then u else m0 y) → News h₀ env.locals h base → Q .next { s with heap := h, toks := tk })
    (hs : ∀ (bs : List (Addr × Obj)) (a : Addr) (ws : List Value) (ep : Nat) (u : Option Value) (o : Obj) (h : Heap) (tk : Nat), (∀ p ∈ bs, @LT.lt Nat _ p.1 I) → (a, listOf ws.toArray ep) ∈ bs → GoodW ws → Fr h₀ env.locals h (fun y => if y = Str.ofString "words" then u else m0 y) → News h₀ env.locals h ((I, o) :: (a, listOf ws.toArray ep) :: bs) →
      wpAny (model prog w) A (assign target env (.ref a)) (fun _ s₂ => wpAny (model prog w) A (execs body env) (UnrPostW h₀ env.locals { s with heap := h, toks := tk } [(I, o)] (fun m' n' => (∃ u, m' = fun y => if y = Str.ofString "words" then u else m0 y) ∧ n' = bs) Q) E s₂) E { s with heap := h, toks := tk }) :
    ItemsRest prog w A E h₀ env target body Q s [(I, "list_iterator")] [(la, lo)] (vs.map .val) m0 base := by
  refine list_turns (J := fun r m nw => (∃ u, m = fun y => if y = Str.ofString "words" then u else m0 y) ∧ nw = base ∧ ∀ v ∈ r, ∃ a ws ep, v = .ref a ∧ (a, listOf ws.toArray ep) ∈ base ∧ GoodW ws) ?_ ?_ vs m0 base ⟨⟨m0 (Str.ofString "words"), ?_⟩, rfl, hgood⟩
  · rintro m nw ⟨⟨u, rfl⟩, rfl, -⟩ h tk F N
    exact h0 u h tk F N
  · rintro v r m nw ⟨⟨u, rfl⟩, rfl, hg⟩ h tk F
    obtain ⟨a, ws, ep, rfl, hm, hG⟩ := hg v (.head _)
    refine AllObj.cons fun o ho => AllObj.nil fun N => ?_
    refine wpAny_mono (hs _ a ws ep u o h tk hI hm hG F (one_news' N hm)) (fun _ s₂ h₂ => wpAny_mono h₂ (fun f s₃ p => postW_mono (fun m' n' q => ?_) p) fun _ _ e => e) fun _ _ e => e
    obtain ⟨q1, rfl⟩ := q
    exact ⟨⟨hkeep, trivial⟩, q1, rfl, fun v hv => hg v (.tail _ hv)⟩
  · funext y
    split
    · next h => rw [h]
    · rfl
where
  one_news' {g h : Heap} {L : Addr} {x a : Addr × Obj} {q : List (Addr × Obj)} (N : News g L h ([x] ++ q)) (ha : a ∈ q) : News g L h (x :: a :: q) := fun p hp => by
    rcases List.mem_cons.mp hp with rfl | hp
    · exact N _ (.head _)
    · rcases List.mem_cons.mp hp with rfl | hp
      · exact N _ (.tail _ ha)
      · exact N _ (.tail _ hp)
end

-- F3
theorem nonempty_no {ns : List Int} {P : Prop} (h : decide (ns = []) = false) (x : 0 < -(ns.length : Int) ∨ (ns.length : Int) ≤ 0) : P := by
  have h1 : ns ≠ [] := by simpa using h
  have h2 : 0 < ns.length := List.length_pos_iff.mpr h1
  omega
theorem pair_news {g h : Heap} {L : Addr} {a b : Addr × Obj} {q : List (Addr × Obj)} (N : News g L h q) (ha : a ∈ q) (hb : b ∈ q) : News g L h [a, b] := fun p hp => by
  rcases List.mem_cons.mp hp with rfl | hp
  · exact N _ ha
  · rw [List.mem_singleton.mp hp]; exact N _ hb
abbrev bagO (p q : Int) (t1 t2 : Tok) (ep : Nat) : Obj := listOf #[.int p t1, .int q t2] ep
theorem cut_bag {M : Model} {A : Around} {x : Sem Value} {Q E : Value → Shared → Prop} {s : Shared} {h₀ : Heap} {L : Addr} {m : Str → Option Value} {news : List (Addr × Obj)} {c : Addr} {o : Obj} {v0 : Option Value} (F : Fr h₀ L s.heap m) (N : News h₀ L s.heap news) (hd : o.data = .cell v0) (hm : (c, o) ∈ news)
    (first : News h₀ L s.heap [(c, o)] → ∀ Q' : Value → Shared → Prop, (∀ bg p q t1 t2 ep h tk, 0 ≤ p → 0 ≤ q → q < 2147483647 → Fr h₀ L h m → News h₀ L h [(bg, bagO p q t1 t2 ep), (c, o)] → @LT.lt Nat _ c bg → Q' (.ref bg) { s with heap := h, toks := tk }) → wpAny M A x Q' E s)
    (cont : ∀ bg p q t1 t2 ep h tk, 0 ≤ p → 0 ≤ q → q < 2147483647 → Fr h₀ L h m → News h₀ L h [(bg, bagO p q t1 t2 ep), (c, o)] → @LT.lt Nat _ c bg → Q (.ref bg) { s with heap := h, toks := tk }) : wpAny M A x Q E s :=
  first (fun p hp => by rw [List.mem_singleton.mp hp]; exact N _ hm) Q cont
section
variable {prog : Program} {w : World} {A : Around} {E : Value → Shared → Prop} {s : Shared} {env : Env} {h₀ : Heap} {body : List Stmt} {Q : Flow → Shared → Prop}
abbrev lawMap (m0 : Str → Option Value) (u v : Option Value) : Str → Option Value := fun y => if y = Str.ofString "turn" then u else if y = Str.ofString "words" then v else m0 y
theorem lawMap_self (m0 : Str → Option Value) : m0 = lawMap m0 (m0 (Str.ofString "turn")) (m0 (Str.ofString "words")) := by
  funext y
  unfold lawMap
  split
  · next h => rw [h]
  · split
    · next h => rw [h]
    · rfl
theorem lawMap_turn (m0 : Str → Option Value) (u v : Option Value) (x : Value) : (fun y => if y = Str.ofString "turn" then some x else lawMap m0 u v y) = lawMap m0 (some x) v := by
  funext y
  unfold lawMap
  split <;> rfl
/-- the loop over the turns: the bag's two numbers stay within their bounds -/
theorem bag_loop {m0 : Str → Option Value} {I bg c : Addr} {o' : Obj} {a : Int} {n k i : Nat} {p q : Int} {t1 t2 : Tok} {ep : Nat} {rest : List (Addr × Obj)} (hp : 0 ≤ p) (hq : 0 ≤ q) (hq2 : q < 2147483647) (hc : (c, o') ∈ rest) (hb : ∀ x ∈ rest, x.1 ≠ bg) (hI : ∀ x ∈ rest, @LT.lt Nat _ x.1 I) (hbI : @LT.lt Nat _ bg I)
    (h0 : ∀ u v h tk nw, Fr h₀ env.locals h (lawMap m0 u v) → News h₀ env.locals h nw → Q .next { s with heap := h, toks := tk })
    (hs : ∀ (rs : List (Addr × Obj)) (v : Option Value) (p q : Int) (t1 t2 : Tok) (ep : Nat) (x : Int) (t : Tok) (h : Heap) (tk : Nat) (it : Obj), 0 ≤ p → 0 ≤ q → q < 2147483647 → (∀ x ∈ (I, it) :: (c, o') :: rs, x.1 ≠ bg) → (∀ x ∈ rs, @LT.lt Nat _ x.1 I) → @LT.lt Nat _ bg I →
      Fr h₀ env.locals h (lawMap m0 (some (.int x t)) v) → News h₀ env.locals h ((bg, bagO p q t1 t2 ep) :: (I, it) :: (c, o') :: rs) →
      wpAny (model prog w) A (execs body env) (UnrPost h₀ env.locals { s with heap := h, toks := tk } I it (fun m' n' => (∃ u v, m' = lawMap m0 u v) ∧ ∃ p q t1 t2 ep, 0 ≤ p ∧ 0 ≤ q ∧ q < 2147483647 ∧ n' = (bg, bagO p q t1 t2 ep) :: rs) Q) E { s with heap := h, toks := tk }) :
    RangeRest prog w A E h₀ env (Str.ofString "turn") body Q s I a n k i m0 ((bg, bagO p q t1 t2 ep) :: rest) := by
  refine range_turns (J := fun m nw => (∃ u v, m = lawMap m0 u v) ∧ ∃ p q t1 t2 ep, 0 ≤ p ∧ 0 ≤ q ∧ q < 2147483647 ∧ nw = (bg, bagO p q t1 t2 ep) :: rest) ?_ ?_ k i m0 _ ⟨⟨_, _, lawMap_self m0⟩, p, q, t1, t2, ep, hp, hq, hq2, rfl⟩
  · rintro m nw ⟨⟨u, v, rfl⟩, p, q, t1, t2, ep, -, -, -, rfl⟩ h tk F N
    exact h0 u v h tk _ F N
  · rintro i m nw ⟨⟨u, v, rfl⟩, p, q, t1, t2, ep, hp, hq, hq2, rfl⟩ t h tk it F N
    rw [lawMap_turn] at F
    refine hs rest v p q t1 t2 ep _ t h tk it hp hq hq2 (fun x hx => ?_) hI hbI F fun x hx => ?_
    · rcases List.mem_cons.mp hx with rfl | hx
      · exact Nat.ne_of_gt hbI
      · rcases List.mem_cons.mp hx with rfl | hx
        · exact hb _ hc
        · exact hb x hx
    · rcases List.mem_cons.mp hx with rfl | hx
      · exact N _ (.tail _ (.head _))
      · rcases List.mem_cons.mp hx with rfl | hx
        · exact N _ (.head _)
        · rcases List.mem_cons.mp hx with rfl | hx
          · exact N _ (.tail _ (.tail _ hc))
          · exact N _ (.tail _ (.tail _ hx))
end
/-- the turns of a block that draws texts from the bag -/
def WJ (P : Str → Prop) (bg : Addr) (rs : List (Addr × Obj)) (n k i : Nat) (ys : List Value) (nw : List (Addr × Obj)) : Prop :=
  i + k = n ∧ ys.length = i ∧ (∀ v ∈ ys, ∃ W t, v = .str W t ∧ P W) ∧ ∃ p q t1 t2 ep, 0 ≤ p ∧ 0 ≤ q ∧ q < 2147483647 ∧ nw = (bg, bagO p q t1 t2 ep) :: rs
theorem WJ.next {P : Str → Prop} {bg : Addr} {rs : List (Addr × Obj)} {n k i : Nat} {ys : List Value} {v : Value} {p q : Int} {t1 t2 : Tok} {ep : Nat} (e1 : i + (k + 1) = n) (e2 : ys.length = i) (e3 : ∀ v ∈ ys, ∃ W t, v = .str W t ∧ P W) (hv : ∃ W t, v = .str W t ∧ P W) (hp : 0 ≤ p) (hq : 0 ≤ q) (hq2 : q < 2147483647) :
    WJ P bg rs n k (i + 1) (ys ++ [v]) ((bg, bagO p q t1 t2 ep) :: rs) :=
  ⟨by omega, by rw [List.length_append, e2]; rfl, fun x hx => by
    rcases List.mem_append.mp hx with hx | hx
    · exact e3 x hx
    · rw [List.mem_singleton.mp hx]; exact hv, p, q, t1, t2, ep, hp, hq, hq2, rfl⟩
theorem gap_of {a b c : Tok} {i : Nat} {v : Value} (h : [Value.str (Str.ofString " ") a, Value.str (Str.ofString "  ") b, Value.str (Str.ofString "\n") c][i]? = some v) : ∃ g t, v = .str g t ∧ Gap g := by
  have hm := List.mem_of_getElem? h
  rcases List.mem_cons.mp hm with rfl | hm
  · exact ⟨_, _, rfl, .inl rfl⟩
  · rcases List.mem_cons.mp hm with rfl | hm
    · exact ⟨_, _, rfl, .inr (.inl rfl)⟩
    · rw [List.mem_singleton.mp hm]; exact ⟨_, _, rfl, .inr (.inr rfl)⟩
theorem bag_news {g h : Heap} {L : Addr} {a b c d : Addr × Obj} {r : List (Addr × Obj)} (N : News g L h (a :: b :: c :: d :: r)) : News g L h (d :: a :: b :: c :: r) := sub_news N fun p hp => by
  simp only [List.mem_cons] at hp ⊢
  rcases hp with h | h | h | h | h
  · exact .inr (.inr (.inr (.inl h)))
  · exact .inl h
  · exact .inr (.inl h)
  · exact .inr (.inr (.inl h))
  · exact .inr (.inr (.inr (.inr h)))
theorem bag_end {h₀ : Heap} {L I C D bg : Addr} {m : Str → Option Value} {s : Shared} {oI oC oD ob o0 : Obj} {S : List (Addr × Obj) → Prop} {rest : Value → List (Addr × Obj) → Prop} {h' : Heap} {tk : Nat} {rs : List (Addr × Obj)} {v : Value} {all : List (Addr × Obj)}
    (F : Fr h₀ L h' m) (N : News h₀ L h' all) (m1 : (bg, ob) ∈ all) (m2 : (I, oI) ∈ all) (m3 : (C, oC) ∈ all) (m4 : (D, oD) ∈ all) (m5 : ∀ p ∈ rs, p ∈ all) (off : LCg.Off3 I C D ((bg, o0) :: rs)) (hS : S ((bg, ob) :: rs)) (r : rest v ((bg, ob) :: rs)) :
    LCg.CompEnd h₀ L m s I oI C oC D oD S rest v { s with heap := h', toks := tk } :=
  LCg.CompEnd.intro F N ((bg, ob) :: rs) (fun p hp => by
    simp only [List.mem_cons] at hp
    rcases hp with rfl | rfl | rfl | rfl | h
    · exact m2
    · exact m3
    · exact m4
    · exact m1
    · exact m5 p h) ⟨off.1, off.2⟩ hS r
theorem bag_apart {I C D bg : Addr} {oI oC oD o0 : Obj} {rs : List (Addr × Obj)} (off : LCg.Off3 I C D ((bg, o0) :: rs)) (hb : ∀ x ∈ rs, x.1 ≠ bg) : ∀ x ∈ (I, oI) :: (C, oC) :: (D, oD) :: rs, x.1 ≠ bg := by
  obtain ⟨⟨h1, h2, h3⟩, -⟩ := off
  intro x hx
  simp only [List.mem_cons] at hx
  rcases hx with rfl | rfl | rfl | h
  · exact Ne.symm h1
  · exact Ne.symm h2
  · exact Ne.symm h3
  · exact hb x h
theorem pairs_of : ∀ {ws gs : List Value}, (∀ v ∈ ws, ∃ W t, v = .str W t ∧ W ∈ menuW) → (∀ v ∈ gs, ∃ g t, v = .str g t ∧ Gap g) → ws.length = gs.length → Pairs ws gs
  | [], [], _, _, _ => .nil
  | [], _ :: _, _, _, h => nomatch h
  | _ :: _, [], _, _, h => nomatch h
  | v :: ws, u :: gs, h1, h2, h => by
    obtain ⟨W, t, rfl, hW⟩ := h1 v (.head _)
    obtain ⟨g, t', rfl, hg⟩ := h2 u (.head _)
    exact .cons W g t t' ws gs hW hg (pairs_of (fun v hv => h1 v (.tail _ hv)) (fun v hv => h2 v (.tail _ hv)) (by simpa using h))
theorem lawMap_words {m0 : Str → Option Value} {u v : Option Value} {x : Value} : (fun y => if y = Str.ofString "words" then some x else lawMap m0 u v y) = lawMap m0 u (some x) := by
  funext y
  unfold lawMap
  by_cases h1 : y = Str.ofString "words"
  · have h2 : ¬ y = Str.ofString "turn" := by rw [h1]; decide +kernel
    rw [if_pos h1, if_neg h2, if_pos h1]
  · rw [if_neg h1]
    by_cases h2 : y = Str.ofString "turn"
    · rw [if_pos h2, if_pos h2]
    · rw [if_neg h2, if_neg h2, if_neg h1, if_neg h1]
theorem good_of {ys : List Value} {n : Nat} (h1 : ys.length = n) (h2 : n ≤ 8) (h3 : 0 < n) (h : ∀ v ∈ ys, ∃ W t, v = .str W t ∧ W ∈ menuW) : GoodW ys := ⟨by omega, by omega, h⟩
theorem off_one {D bg : Addr} {o : Obj} {r : List (Addr × Obj)} (h : LCg.Off1 D ((bg, o) :: r)) {x : Addr × Obj} {q : List (Addr × Obj)} {od : Obj} (hb : ∀ x ∈ q, x.1 ≠ bg) : ∀ x ∈ (D, od) :: q, x.1 ≠ bg := fun x hx => by
  rcases List.mem_cons.mp hx with rfl | hx
  · exact Ne.symm h.1
  · exact hb x hx
theorem turn_off {I bg : Addr} {o : Obj} {rs : List (Addr × Obj)} (hbI : @LT.lt Nat _ bg I) (hlt : ∀ x ∈ rs, @LT.lt Nat _ x.1 I) : ∀ x ∈ (bg, o) :: rs, x.1 ≠ I := fun x hx => by
  rcases List.mem_cons.mp hx with rfl | hx
  · exact Nat.ne_of_lt hbI
  · exact Nat.ne_of_lt (hlt x hx)

-- S0
section
variable {prog : Program} {w : World} {A : Around} {E : Value → Shared → Prop} {s : Shared}
/-- the head `[:2]` of a made triple -/
theorem applied_two {sl : Addr} {u : Tok} {Q : Int × Int × Nat → Shared → Prop} (hs : s.heap.IsSliceOf sl .none (.int 2 u) .none) (h : Q (0, 1, 2) s) :
    wpAny (model prog w) A (Builtin.Slice.sliceApplied (.ref sl) (pure (3 : Int))) Q E s := by
  obtain ⟨os, hos, -, hds⟩ := id hs
  unfold Builtin.Slice.sliceApplied Builtin.Slice.sliceFields
  refine wpAny_bind (wpAny_bind (wpAny_field hos hds (x := .none) rfl (wpAny_bind (wpAny_field hos hds (x := .int 2 u) rfl (wpAny_bind (wpAny_field hos hds (x := .none) rfl (wpAny_pure ?_)))))))
  refine wpAny_bind (slicePart_none ?_)
  show wpAny _ _ (if ((1 : Int) == 0) = true then _ else _) _ _ s
  rw [if_neg (by decide)]
  exact wpAny_bind (slicePart_none (wpAny_bind (slicePart_int (wpAny_bind (wpAny_pure (wpAny_pure h))))))
theorem getItem_two {t sl : Addr} {x y z : Value} {u : Tok} {Q : Value → Shared → Prop} (ht : IsTup s.heap t #[x, y, z]) (hs : s.heap.IsSliceOf sl .none (.int 2 u) .none)
    (h : Q (.ref s.heap.objs.size) { s with heap := s.heap.push { cls := .type "tuple", data := .seq #[x, y] } }) : wpAny (model prog w) A (getItem (.ref t) (.ref sl)) Q E s := by
  have hsz : sizeOk (.seq #[x, y]) := by show (#[x, y] : Array Value).size ≤ sizeLine; rw [PySem.sizeLine_eq]; exact Nat.le_of_ble_eq_true rfl
  obtain ⟨os, hos, hcs, -⟩ := id hs
  have hTs : s.TypeIs (.ref sl) "slice" := ⟨os, hos, hcs⟩
  unfold getItem
  try with_reducible refine wpAny_holding ?_
  first | refine wpAny_bind (wpAny_pure ?_) | skip
  refine wpAny_bind (wpAny_sequenceKey ht.typeIs (by decide) ?_)
  refine wpAny_bind (wpAny_callSpecial?_slot (name := Str.ofString "__getitem__") ht.typeIs slot_tuple_getitem (wpAny_call_entry slot_tuple_getitem ht.typeIs entry_tuple_getitem ?_ (args_tuple_getitem _ _)))
  show wpAny _ _ (Builtin.Tuple.tupleItemsOf (.ref t) >>= _) _ _ s
  refine wpAny_bind (tupleItemsOf_ ht ?_)
  refine wpAny_bind (wpAny_typeOf hTs ?_)
  rw [if_pos (by decide)]
  refine wpAny_bind (applied_two hs ?_)
  show wpAny _ _ (if ((0 : Int) == 0 && (1 : Int) == 1 && (2 : Nat) == 3) = true then _ else _) _ _ s
  rw [if_neg (by decide)]
  first
    | exact wpAny_bind (m := Builtin.Tuple.tupleExact _) (wpAny_newObj_type (wpAny_pure ⟨_, rfl, wpAny_pure h⟩) hsz)
    | exact wpAny_bind (m := Builtin.Tuple.tupleExact _) (wpAny_newObj_type (wpAny_bind (wpAny_pure (wpAny_pure ⟨_, rfl, wpAny_pure h⟩))) hsz)
    | exact wpAny_bind (wpAny_bind (m := Builtin.Tuple.tupleExact _) (wpAny_newObj_type (wpAny_pure (wpAny_pure ⟨_, rfl, wpAny_pure h⟩)) hsz))
    | exact wpAny_bind (wpAny_bind (m := Builtin.Tuple.tupleExact _) (wpAny_newObj_type (wpAny_pure ⟨_, rfl, wpAny_pure h⟩) hsz))
theorem slice_two {h₀ : Heap} {L : Addr} {m : Str → Option Value} {news : List (Addr × Obj)} {value slice : PySem.Expr} {t : Addr} {x y z : Value} {n : Nat} {u : Tok} {Q : Value → Shared → Prop}
    (F : Fr h₀ L s.heap m) (N : News h₀ L s.heap news) (hm : (t, ({ cls := .type "tuple", data := .seq #[x, y, z] n } : Obj)) ∈ news)
    (h : ∀ D h', Fr h₀ L h' m → News h₀ L h' ((D, { cls := .type "tuple", data := .seq #[x, y] }) :: news) → (∀ p ∈ news, p.1 < D) → Q (.ref D) { s with heap := h' })
    (hs : subscripted slice false (.ref t) (.ref s.heap.objs.size) = operate [.ref s.heap.objs.size, .ref t] (getItem (.ref t) (.ref s.heap.objs.size)) := by with_unfolding_all rfl)
    (hg : ∀ r, letTemporaryGo value (.ref t) r = pure () := by intro _; with_unfolding_all rfl) :
    wpAny (model prog w) A (subscriptTail value slice (.ref t) (.ref s.heap.objs.size)) Q E { s with heap := s.heap.push { cls := .type "slice", data := .fields #[.none, .int 2 u, .none] } } := by
  have ht : IsTup s.heap t #[x, y, z] := News.isTup N hm
  have ht' : IsTup (s.heap.push { cls := .type "slice", data := .fields #[.none, .int 2 u, .none] }) t #[x, y, z] := ht.keeps fun _ _ e => Heap.get?_push_of_some _ e
  refine subscriptTail_ops (s := { s with heap := s.heap.push { cls := .type "slice", data := .fields #[.none, .int 2 u, .none] } }) ht'.typeIs slot_tuple_getitem.lookup (getItem_two ht' (Heap.IsSliceOf.new ..) ?_) hs hg
  have N1 := News.push (F.push { cls := .type "slice", data := .fields #[.none, .int 2 u, .none] }) (N.grown fun _ _ e => Heap.get?_push_of_some _ e) { cls := .type "tuple", data := .seq #[x, y] }
  rw [Heap.size_push] at N1
  show Q (.ref (s.heap.push _).objs.size) _
  rw [Heap.size_push]
  exact h _ _ ((F.push _).push _) N1 fun p hp => Nat.lt_succ_of_lt (Heap.lt_size (N p hp).1)
end

-- F1
theorem hk544 : True := by
  k_with_none
  exact True.intro
theorem hk516 : True := by
  k_with "mine k_all" => (assumption)
  exact True.intro
theorem hk517 : True := by
  k_with "mine units_room" => (ktr_units)
  exact True.intro
theorem hk518 : True := by
  k_with "mine exec Assign cons ListComp" => ((k_here; k_dflt (refine LCg.Assign_ListComp_U (F₀ := by k_asm) (by rfl) (by with_unfolding_all rfl) (by with_unfolding_all rfl) (by decide) (by rfl) (by decide) (by rfl) (by rfl) (by rfl) ?_)))
  exact True.intro
theorem hk519 : True := by
  k_with "mine call ref" => ((k_here; (k_dflt (show wpAny _ _ (call (Value.ref 306) [Value.str _ _]) _ _ _)); k_dflt (refine' heard_law ?k19q ?k29q ?k39q ?k49q ?k59q ?Xb9q ?Tb9q ?k69q ?kd9q ?ku9q ?_; (case k19q => k_asm); (case k29q => k_asm); (case k39q => k_asm); (case k49q => k_asm); (case k59q => k_asm); (case Xb9q => k_asm); (case Tb9q => k_asm); (case k69q => exact rfl); (case kd9q => ktr_room); (case ku9q => ktr_units)); intro li l4 h' tk' hl4 hn4 F' N'))
  exact True.intro
theorem hk520 : True := by
  k_with "mine CompSrc" => ((k_here; k_dflt (refine' LCg.CompSrc.ledger (its := (trf l4).toArray) ?hh9q ?F9q ?N9q ?hm9q ?z9q ?_; (case hh9q => rfl); (case F9q => k_asm); (case N9q => k_asm); (case hm9q => k_mem); (case z9q => (rw [PySem.sizeLine_eq, List.size_toArray, trf, List.length_map]; omega))); intro gq; refine Hold.out ?_))
  exact True.intro
theorem hk521 : True := by
  k_with "mine subscriptTail" => ((k_here; (with_reducible show wpAny _ _ (subscriptTail _ (PySem.Expr.Slice none (some _) none _) (Value.ref _) (Value.ref _)) _ _ _); (with_reducible rename Fr _ _ _ _ => F'); (with_reducible rename News _ _ _ _ => N'); (refine' slice_two (s := ⟨_, _, _, _, _⟩) F' N' ?hm9q ?_ ?hs9q ?hg9q; (case hm9q => k_mem); (case hs9q => with_unfolding_all rfl); (case hg9q => (intro _; with_unfolding_all rfl))); intro D' h' F' N' l1; (try k_lt l1)))
  exact True.intro
theorem hk522 : True := by
  k_with "mine CompEnd" => ((refine' turn_end1 ?F9q ?N9q ?o19q ?o29q ?o39q ?off9q ?S9q ?r9q; (case F9q => k_asm); (case N9q => k_asm); (case o19q => k_ne); (case o29q => k_ne); (case o39q => k_ne); (case off9q => exact p6); (case S9q => exact hsrc _ _); (case r9q => exact jn _ _ _ _)))
  exact True.intro
theorem hk523 : True := by
  k_with "mine compareOp NotEq ref ref" => ((k_here; k_dflt (refine' ne_told ?N9q ?ha9q ?hb9q ?x09q ?x19q ?x29q ?x39q ?y09q ?y19q ?y29q ?y39q ?hu9q ?_; (case N9q => k_asm); (case ha9q => k_mem); (case hb9q => k_mem); (case x09q => k_mem); (case x19q => k_mem); (case x29q => k_mem); (case x39q => k_mem); (case y09q => k_mem); (case y19q => k_mem); (case y29q => k_mem); (case y39q => k_mem); (case hu9q => ktr_units))))
  exact True.intro
theorem hk524 : True := by
  k_with "mine ite" => (first | (with_reducible refine ite_ff ?_) | (with_reducible refine ite_tt ?_))
  exact True.intro
theorem hk525 : True := by
  k_with "mine exec For Name Name cons nil" => ((k_here; (rename Fr _ _ _ _ => lF'); (with_unfolding_all refine' For_turns lF' ?_; k_whole)))
  exact True.intro
theorem hk526 : True := by
  k_with "mine pyIter ref" => ((k_here; (with_reducible show wpAny _ _ (pyIter (Value.ref _)) (fun it s₂ => TurnsAt _ _ _ _ _ _ _ _ _ it s₂) _ _); k_dflt (refine' iter_listTurns ?hh9q ?F9q ?N9q ?hm9q ?hc9q ?hd9q ?_; (case hh9q => rfl); (case F9q => k_asm); (case N9q => k_asm); (case hm9q => k_mem); (case hc9q => rfl); (case hd9q => rfl)); intro i' l1; refine Hold.out ?_))
  exact True.intro
theorem hk527 : True := by
  k_with "mine call builtin:len" => ((k_here; (with_reducible show wpAny _ _ (call (Value.builtin "len") [Value.ref _]) _ _ _); k_dflt (refine' len_lstK (vs := wsA.toArray) ?N9q ?a9q ?h9q ?_; (case N9q => k_asm); (case a9q => k_mem); (case h9q => (rw [List.size_toArray]; exact Nat.le_trans hGA.1 (by decide)))); intro t' tk'))
  exact True.intro
theorem hk528 : True := by
  k_with "mine binaryOp Mult ref int" => ((k_here; k_dflt (refine' mul_one (n := wsA.toArray.size) ?F9q ?N9q ?a9q ?h9q ?_; (case F9q => k_asm); (case N9q => k_asm); (case a9q => k_mem); (case h9q => (rw [List.size_toArray]; exact Nat.le_trans hGA.1 (by decide)))); intro D' h' F' N' l1; (try k_lt l1)))
  exact True.intro
theorem hk529 : True := by
  k_with "mine call ref" => ((k_here; (k_dflt (show wpAny _ _ (call (Value.ref 341) [Value.ref _, Value.ref _]) _ _ _)); k_dflt (refine' right_law ?k19q ?k29q ?k39q ?k49q ?k59q ?Xb9q ?Tb9q ?k69q ?kd9q ?ku9q ?w9q ?g9q (hPA _) hGA.1 hGA.2.1 ?_; (case k19q => k_asm); (case k29q => k_asm); (case k39q => k_asm); (case k49q => k_asm); (case k59q => k_asm); (case Xb9q => k_asm); (case Tb9q => k_asm); (case k69q => exact rfl); (case kd9q => ktr_room); (case ku9q => ktr_units); (case w9q => k_mem); (case g9q => k_mem)); intro h' tk' F' N'))
  exact True.intro
theorem hk530 : True := by
  k_with "mine UnrEndW" => ((refine' endL_intro ?F9q ?N9q ?i9q ?sub9q hIA ⟨⟨_, words_map⟩, rfl⟩; (case F9q => k_asm); (case N9q => k_asm); (case i9q => k_mem); (case sub9q => (intro p hp; repeat (first | exact hp | refine List.Mem.tail _ ?_)))))
  exact True.intro
theorem hk531 : True := by
  k_with "mine call ref" => ((k_here; (fail_if_success (have := hcB)); (k_dflt (show wpAny _ _ (call (Value.ref 287) [Value.ref _]) _ _ _)); (refine Hold.out ?_)))
  exact True.intro
theorem hk532 : True := by
  k_with "mine exec For Name Call cons nil" => ((k_here; (rename Fr _ _ _ _ => lF'); (with_unfolding_all refine' For_invVF lF' ?kA9q ?kB9q ?_; (case kA9q => exact rfl); (case kB9q => exact rfl); k_whole)))
  exact True.intro
theorem hk533 : True := by
  k_with "mine pyIter ref" => ((k_here; (with_reducible show wpAny _ _ (pyIter (Value.ref _)) (fun it s₂ => LoopAtV _ _ _ _ _ _ _ _ _ it s₂) _ _); k_dflt (refine' iter_rangeUnr (n := 2) ?hh9q ?r9q ?sm9q ?n9q ?F9q ?N9q ?_; (case hh9q => rfl); (case r9q => assumption); (case sm9q => decide); (case n9q => decide); (case F9q => k_asm); (case N9q => k_asm)); intro i' l1; refine Hold.out ?_))
  exact True.intro
theorem hk534 : True := by
  k_with "mine call ref" => ((k_here; (k_dflt (show wpAny _ _ (call (Value.ref 294) _) _ _ _)); k_dflt (refine' useU (C := pick_c _ _ _ _ _ _ _ _ _ _ hp hq hq2 (by omega) (by omega) hbA) (hp := ?_)); intro r' p' q' t' t1' t2' ep' hr0 hr1 hp hq hq2 h' tk' F' N'))
  exact True.intro
theorem hk535 : True := by
  k_with "mine CompSrc" => ((k_here; k_dflt (refine' LCg.CompSrc.range (n := (1 + r').toNat) ?hh9q ?F9q ?N9q ?hr9q ?sm9q ?n9q ?z9q ?_; (case hh9q => rfl); (case F9q => k_asm); (case N9q => k_asm); (case hr9q => assumption); (case sm9q => exact small_one (by omega) (by omega) (by omega) (by omega)); (case n9q => (rw [rangeSize_nat, Int.sub_zero])); (case z9q => (rw [PySem.sizeLine_eq]; omega))); intro gq; refine Hold.out ?_))
  exact True.intro
theorem hk536 : True := by
  k_with "mine CompSrc" => ((k_here; k_dflt (refine' LCg.CompSrc.ledger (its := ysW.toArray) ?hh9q ?F9q ?N9q ?hm9q ?z9q ?_; (case hh9q => rfl); (case F9q => k_asm); (case N9q => k_asm); (case hm9q => k_mem); (case z9q => (rw [PySem.sizeLine_eq, List.size_toArray]; omega))); intro gq; refine Hold.out ?_))
  exact True.intro
theorem hk537 : True := by
  k_with "mine eval ListComp" => ((k_here; k_dflt (refine LCg.ListComp_U (F₀ := by k_asm) (by with_unfolding_all rfl) (by decide) (by rfl) (by decide) (by rfl) ?_)))
  exact True.intro
theorem hk538 : True := by
  k_with "mine call ref" => ((k_here; (k_dflt (show wpAny _ _ (call (Value.ref 334) _) _ _ _)); k_dflt (refine' useU (C := word_c _ _ _ _ _ _ _ _ hp hq hq2 hbW) (hp := ?_)); intro W' t' p' q' t1' t2' ep' hW' hp hq hq2 h' tk' F' N'; (have hvN : ∃ W t, Value.str W' t' = .str W t ∧ W ∈ menuW := ⟨W', t', rfl, hW'⟩)))
  exact True.intro
theorem hk539 : True := by
  k_with "mine call ref" => ((k_here; (k_dflt (show wpAny _ _ (call (Value.ref 301) [Value.ref _, Value.ref _]) _ _ _)); k_dflt (refine' use (one_c _ _ _ _ _ _ _ _ _ _ _ hp hq hq2 ?hl9q ?hl29q hbW ?hne9q) ?k19q ?k29q ?k39q ?k49q ?k59q ?k69q ?kd9q ?ku9q ?_ ?he9q; (case k19q => k_asm); (case k29q => k_asm); (case k39q => k_asm); (case k49q => exact swap2 (by k_asm)); (case k59q => k_asm); (case k69q => first | exact rfl | assumption); (case kd9q => ktr_room); (case ku9q => ktr_units)); (case hl9q => exact Nat.le_of_ble_eq_true rfl); (case hl29q => exact Nat.le_of_ble_eq_true rfl); (case hne9q => k_ne); (case he9q => exact True.intro); intro iv' v' p' q' t1' t2' ep' hv' hp hq hq2 h' tk' F' N'; (have hvN := gap_of hv')))
  exact True.intro
theorem hk540 : True := by
  k_with "mine CompEnd" => ((refine' bag_end ?F9q ?N9q ?m19q ?m29q ?m39q ?m49q ?m59q offN ?S9q (WJ.next eN1 eN2 eN3 hvN hp hq hq2); (case F9q => k_asm); (case N9q => k_asm); (case m19q => k_mem); (case m29q => k_mem); (case m39q => k_mem); (case m49q => k_mem); (case m59q => (intro p hp; repeat (first | exact hp | refine List.Mem.tail _ ?_))); (case S9q => first | exact True.intro | exact .inr ⟨_, .tail _ (.head _), rfl, _, rfl⟩)))
  exact True.intro
theorem hk541 : True := by
  k_with "mine call ref" => ((k_here; (k_dflt (show wpAny _ _ (call (Value.ref 341) [Value.ref _, Value.ref _]) _ _ _)); k_dflt (refine' right_law ?k19q ?k29q ?k39q ?k49q ?k59q ?Xb9q ?Tb9q ?k69q ?kd9q ?ku9q ?w9q ?g9q hPB hGB.1 hGB.2.1 ?_; (case k19q => k_asm); (case k29q => k_asm); (case k39q => k_asm); (case k49q => k_asm); (case k59q => k_asm); (case Xb9q => k_asm); (case Tb9q => k_asm); (case k69q => exact rfl); (case kd9q => ktr_room); (case ku9q => ktr_units); (case w9q => k_mem); (case g9q => k_mem)); intro h' tk' F' N'))
  exact True.intro
theorem hk542 : True := by
  k_with "mine UnrEnd" => ((refine' UnrEnd.intro ?F9q ?N9q _ ?s9q (turn_off hbI hlt) ⟨⟨_, _, lawMap_words⟩, _, _, _, _, _, hp, hq, hq2, rfl⟩; (case F9q => k_asm); (case N9q => k_asm); (case s9q => (intro x hx; rcases List.mem_cons.mp hx with rfl | hx; k_mem; rcases List.mem_cons.mp hx with rfl | hx; k_mem; repeat (first | exact hx | refine List.Mem.tail _ ?_)))))
  exact True.intro
theorem hk543 : True := by
  k_with "mine call ref" => ((k_here; (k_dflt (show wpAny _ _ (call (Value.ref 301) [Value.ref _, Value.ref _]) _ _ _)); (refine Hold.out ?_)))
  exact True.intro
set_option maxHeartbeats 2000000 in
theorem walk : topp.1 := by
  delta topp
  dsimp only
  k_go0
  all_goals try k_fold
  k_steps
  unfold Hold
  have hl4t := heads4 hl4
  refine comp_turns (J := TJ l4 _) ?h0 ?hs _ _ _ _ (TJ.start _ _ (by rw [List.size_toArray]; exact List.length_map ..))
  case hs =>
    intro k i ys nw j v I oI C oC D m₂ h tk E' p1 p2 p3 p4 p5 p6 p7
    obtain ⟨⟨y, kk, tx', pl⟩, hm, hv, ⟨dd, hnw⟩, jn⟩ := j.next
    have hv := hv v p1
    subst hv
    have N₂ := one_news p5 (a := (y.a, tupO (y, kk, tx', pl))) (.tail _ (.tail _ (.tail _ (hnw ▸ List.mem_append_right _ (.tail _ (List.mem_append_left _ (tlg_mem hm)))))))
    have hsrc : ∀ g q, LCg.SrcAt g li (trf l4).toArray (q :: nw) := fun g q => .inr ⟨_, .tail _ (hnw ▸ List.mem_append_right _ (.head _)), rfl, _, rfl⟩
    clear p5 p1 j hnw hm N'
    dsimp only at jn N₂
    k_steps
  case h0 =>
    clear N'
    intro i ys nw j
    obtain ⟨d, rfl, rfl, e8⟩ := j.done
    rw [hl4t] at e8
    obtain ⟨k0, k1, k2, k3, rfl⟩ := four2 e8
    intro D h tk F₂ N₂ o1
    clear o1 e8 hl4t hl4 hn4
    simp only [prf, plg, List.map_cons, List.map_nil, List.reverse_cons, List.reverse_nil, List.nil_append, List.cons_append] at N₂
    k_steps
    unfold Hold
    refine some_loop ?hkeep l1 ?hgood ?h0 ?hs
    case hkeep => k_mem
    case hgood =>
      repeat' (first | exact List.forall_mem_nil _ | refine List.forall_mem_cons.mpr ⟨⟨_, _, _, rfl, by k_mem, Nat.le_of_ble_eq_true rfl, Nat.le_of_ble_eq_true rfl, by repeat' (first | exact List.forall_mem_nil _ | refine List.forall_mem_cons.mpr ⟨⟨_, _, rfl, by decide +kernel⟩, ?_⟩)⟩, ?_⟩)
    case hs =>
      clear l1
      intro bs aA wsA epA uA oA hA tkA hIA hmA hGA F' N'
      have hPA : ∀ t, Pairs wsA (List.replicate wsA.toArray.size (.str (Str.ofString " ") t)) := fun t => hGA.pairs
      k_steps
    case h0 =>
      clear l1
      intro uA hA tkA F' N'
      k_steps
      unfold Hold
      refine' cut_bag ?F9 ?N9 ?d9 ?m9 ?first9 ?cont9
      case F9 => k_asm
      case N9 => k_asm
      case d9 => assumption
      case m9 => (repeat (first | exact List.mem_append_right _ (List.Mem.head _) | refine List.Mem.tail _ ?_))
      case first9 =>
        intro N' Qc hcB
        k_steps
        · refine' hcB _ _ _ _ _ _ _ _ ?p0 ?q0 ?q1 ?F0 ?N0 ?lt
          case F0 => k_asm
          case N0 => exact pair_news (by k_asm) (by k_mem) (by k_mem)
          case p0 => exact Int.mul_nonneg (by split <;> omega) (by split <;> omega)
          case q0 => exact (fmodB _).1
          case q1 => exact (fmodB _).2
          case lt => omega
        · exact nonempty_no (by assumption) (by assumption)
        · refine' hcB _ _ _ _ _ _ _ _ ?p0 ?q0 ?q1 ?F0 ?N0 ?lt
          case F0 => k_asm
          case N0 => exact pair_news (by k_asm) (by k_mem) (by k_mem)
          case p0 => exact Int.mul_nonneg (by split <;> omega) (by split <;> omega)
          case q0 => exact (fmodB _).1
          case q1 => exact (fmodB _).2
          case lt => omega
      case cont9 =>
        clear N' F'
        intro bg p q t1 t2 ep h tk hp hq hq2 F' N' hcb
        k_steps
        unfold Hold
        refine' bag_loop (rest := [_]) hp hq hq2 (List.Mem.head _) ?b8 ?I8 ?bI8 ?h08 ?hs8
        case b8 => exact fun x hx => by rw [List.mem_singleton.mp hx]; exact Nat.ne_of_lt hcb
        case I8 => exact fun x hx => l1 x (.tail _ hx)
        case bI8 => exact l1 _ (.head _)
        case h08 =>
          clear l1 F' N'
          intro u v h tk nw F' N'
          k_steps
        case hs8 =>
          clear l1 F' N' hp hq hq2
          intro rs v p q t1 t2 ep x t h tk it hp hq hq2 hbA hlt hbI F' N'
          k_steps
          unfold Hold
          refine comp_turns (J := WJ (fun W => W ∈ menuW) bg _ _) ?h0w ?hsw _ _ _ _ ⟨Nat.zero_add _, rfl, (fun v hv => nomatch hv), _, _, _, _, _, hp, hq, hq2, rfl⟩
          case hsw =>
            clear F' N' hp hq hq2
            rintro k i ys nw ⟨eN1, eN2, eN3, p, q, t1, t2, ep, hp, hq, hq2, rfl⟩ v I oI C oC D m₂ h tk E' p1 p2 p3 F' N' offN ne
            have hbW := bag_apart (oI := oI) (oC := oC) (oD := LCg.lst ys) offN hbA
            replace N' := bag_news N'
            clear ne
            k_steps
          case h0w =>
            clear F' N' hp hq hq2
            rintro i ysW nw ⟨eM1, eM2, eM3, p, q, t1, t2, ep, hp, hq, hq2, rfl⟩ D h tk F' N' o1
            replace N' := swap2 N'
            have hGB : GoodW ysW := good_of (n := (1 + r').toNat) (by omega) (by omega) (by omega) eM3
            have hyl : ysW.length ≤ 8 := hGB.1
            have hbD := off_one o1 (x := (D, LCg.lst ysW)) (od := LCg.lst ysW) hbA
            clear o1
            k_steps
            unfold Hold
            refine comp_turns (J := WJ Gap bg _ _) ?h0g ?hsg _ _ _ _ ⟨Nat.zero_add _, rfl, (fun v hv => nomatch hv), _, _, _, _, _, hp, hq, hq2, rfl⟩
            case hsg =>
              clear F' N' hp hq hq2
              rintro k i ys nw ⟨eN1, eN2, eN3, p, q, t1, t2, ep, hp, hq, hq2, rfl⟩ v I oI C oC D2 m₂ h tk E' p1 p2 p3 F' N' offN ne
              have hbW := bag_apart (oI := oI) (oC := oC) (oD := LCg.lst ys) offN hbD
              replace N' := bag_news N'
              clear ne
              k_steps
              unfold Hold
              set_option maxHeartbeats 400000 in
              refine' use (one_c _ _ _ _ _ _ _ _ _ _ _ hp hq hq2 ?hl9q ?hl29q hbW ?hne9q) ?k19q ?k29q ?k39q ?k49q ?k59q ?k69q ?kd9q ?ku9q ?_ ?he9q
              case k19q => k_asm
              case k29q => k_asm
              case k39q => k_asm
              case k49q => exact swap2 (by k_asm)
              case k59q => k_asm
              case k69q => first | exact rfl | assumption
              case kd9q => ktr_room
              case ku9q => ktr_units
              case hl9q => exact Nat.le_of_ble_eq_true rfl
              case hl29q => exact Nat.le_of_ble_eq_true rfl
              case hne9q => k_ne
              case he9q => exact True.intro
              intro iv' v' p' q' t1' t2' ep' hv' hp hq hq2 h' tk' F' N'
              have hvN := gap_of hv'
              refine' bag_end ?F9q ?N9q ?m19q ?m29q ?m39q ?m49q ?m59q offN ?S9q (WJ.next eN1 eN2 eN3 hvN hp hq hq2)
              case F9q => k_asm
              case N9q => k_asm
              case m19q => k_mem
              case m29q => k_mem
              case m39q => k_mem
              case m49q => k_mem
              case m59q => (intro p hp; repeat (first | exact hp | refine List.Mem.tail _ ?_))
              case S9q => first | exact True.intro | exact .inr ⟨_, .tail _ (.head _), rfl, _, rfl⟩
            case h0g =>
              clear F' N' hp hq hq2
              rintro i ys nw ⟨eN1, eN2, eN3, p, q, t1, t2, ep, hp, hq, hq2, rfl⟩ D2 h tk F' N' o2
              have hPB : Pairs ysW ys := pairs_of eM3 eN3 (by rw [List.size_toArray] at eN1; omega)
              clear o2
              k_steps
theorem t1 : PySem.Challenge.rw_xw0211_01.Holds := topp.2 walk
end Mine
theorem PySem.Challenge.cw_xw0211_01_holds : PySem.Challenge.rw_xw0211_01.Holds := by
  exact Mine.t1
