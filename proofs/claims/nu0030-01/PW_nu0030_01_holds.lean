import PyProof.Rows.All
import Wide.All
import OpenK.AllK
import Wide.FinOn
import Lean
import PySem.Challenge.RW_nu0030_01
open PySem PySem.W PySem.Calls PySem.Spec PyProof.Rows
set_option Elab.async false
set_option linter.unusedVariables false
set_option maxRecDepth 100000
set_option maxHeartbeats 8000000
local macro_rules | `(tactic| walk_at "eval Constant int") => `(tactic| k_extra "eval Constant int")
local macro_rules | `(tactic| walk_at "eval Constant str") => `(tactic| k_extra "eval Constant str")
local macro_rules | `(tactic| walk_at "binaryOp Add int int") => `(tactic| k_extra "binaryOp Add int int")
local macro_rules | `(tactic| walk_at "binaryOp Sub int int") => `(tactic| k_extra "binaryOp Sub int int")
local macro_rules | `(tactic| walk_at "storeName") => `(tactic| k_extra "storeName")
local macro_rules | `(tactic| walk_at "newTuple") => `(tactic| k_extra "newTuple")
local macro_rules | `(tactic| walk_at "newList") => `(tactic| k_extra "newList")
local macro_rules | `(tactic| walk_at "eval Call Name") => `(tactic| k_extra "eval Call Name")
local macro_rules | `(tactic| walk_at "And") => `(tactic| k_extra "And")
local macro_rules | `(tactic| walk_at "eval Name") => `(tactic| k_extra "eval Name")
local macro_rules | `(tactic| walk_at "compareOp Eq ref ref") => `(tactic| k_extra "compareOp Eq ref ref")
local macro_rules | `(tactic| walk_at "compareOp NotEq ref ref") => `(tactic| k_extra "compareOp NotEq ref ref")
local macro_rules | `(tactic| walk_at "compareOp NotIn str ref") => `(tactic| k_extra "compareOp NotIn str ref")
local macro_rules | `(tactic| walk_at "subscriptTail Name Constant ref int") => `(tactic| k_extra "subscriptTail Name Constant ref int")
local macro_rules | `(tactic| walk_at "subscriptTail Name UnaryOp ref int") => `(tactic| k_extra "subscriptTail Name UnaryOp ref int")
local macro_rules | `(tactic| walk_at "subscriptTail Name Name ref int") => `(tactic| k_extra "subscriptTail Name Name ref int")
local macro_rules | `(tactic| walk_at "subscriptTail Name Slice ref ref") => `(tactic| k_extra "subscriptTail Name Slice ref ref")
local macro_rules | `(tactic| walk_at "subscriptTail Attribute") => `(tactic| k_extra "subscriptTail Attribute")
local macro_rules | `(tactic| walk_at "subscriptTail BinOp") => `(tactic| k_extra "subscriptTail BinOp")
local macro_rules | `(tactic| walk_at "subscriptTail Subscript") => `(tactic| k_extra "subscriptTail Subscript")
local macro_rules | `(tactic| walk_at "subscriptTail") => `(tactic| k_extra "subscriptTail")
local macro_rules | `(tactic| walk_at "binaryOp Mult int int") => `(tactic| k_extra "binaryOp Mult int int")
local macro_rules | `(tactic| walk_at "binaryOp Mod int int") => `(tactic| k_extra "binaryOp Mod int int")
local macro_rules | `(tactic| walk_at "binaryOp FloorDiv int int") => `(tactic| k_extra "binaryOp FloorDiv int int")
local macro_rules | `(tactic| walk_at "getMethod") => `(tactic| k_extra "getMethod")
local macro_rules | `(tactic| walk_at "getMethod ref") => `(tactic| k_extra "getMethod ref")
local macro_rules | `(tactic| walk_at "exec Raise some none") => `(tactic| k_extra "exec Raise some none")
local macro_rules | `(tactic| walk_at "call ref") => `(tactic| k_extra "call ref")
local macro_rules | `(tactic| walk_at "call builtin:len") => `(tactic| k_extra "call builtin:len")
local macro_rules | `(tactic| walk_at "setAttr ref") => `(tactic| k_extra "setAttr ref")
local macro_rules | `(tactic| walk_at "getAttr ref") => `(tactic| k_extra "getAttr ref")
local macro_rules | `(tactic| walk_at "handleBy ref") => `(tactic| k_extra "handleBy ref")
local macro_rules | `(tactic| walk_at "noteFrame ref") => `(tactic| k_extra "noteFrame ref")
local macro_rules | `(tactic| k_in) => `(tactic| k_extra "k_in")
local macro_rules | `(tactic| k_inst) => `(tactic| k_extra "k_inst")
local macro_rules | `(tactic| k_get) => `(tactic| k_extra "k_get")
local macro_rules | `(tactic| k_mem) => `(tactic| k_extra "k_mem")
local macro_rules | `(tactic| k_ne) => `(tactic| k_extra "k_ne")
namespace Mine
section
/-- the program, as the row bears it -/
noncomputable abbrev prog : Program := PySem.Challenge.rw_nu0030_01.row.toRowW.1
noncomputable def stAt (l : List Stmt) (i : Nat) : Stmt := (l[i]?).getD (.Pass ⟨0, 0, 0, 0⟩)
noncomputable def clsB : Stmt → List Stmt
  | .ClassDef _ _ _ b _ _ _ _ _ _ _ => b
  | _ => []
noncomputable def fnB : Stmt → List Stmt
  | .FunctionDef _ _ b _ _ _ _ _ _ _ => b
  | _ => []
noncomputable def fnP : Stmt → Arguments
  | .FunctionDef _ a _ _ _ _ _ _ _ _ => a
  | _ => ⟨[], [], none, [], [], none, []⟩
noncomputable def fnS : Stmt → Scope
  | .FunctionDef _ _ _ _ _ _ s _ _ _ => s
  | _ => default
/-- a part of the program, named by where it stands and kept as it reads there -/
noncomputable abbrev lit {α : Type} {a : α} (x : α) (_ : a = x) : α := x
noncomputable abbrev de (P : Params) (x : String) (t : Tok) (v : Value) : DictEntry := ⟨PyData.keyHash P (.ofString x), .str (.ofString x) t, v⟩
noncomputable abbrev lf (o : Obj) : BT := .node o .nil .nil
noncomputable abbrev bd0 : List Stmt := by
  refine' lit (a := (fnB (stAt prog.main.body 0))) ?x ?h
  case h => conv => lhs; whnf
noncomputable abbrev pr0 : Arguments := by
  refine' lit (a := (fnP (stAt prog.main.body 0))) ?x ?h
  case h => conv => lhs; whnf
noncomputable abbrev sc0 : Scope := by
  refine' lit (a := (fnS (stAt prog.main.body 0))) ?x ?h
  case h => conv => lhs; whnf
noncomputable abbrev bd1 : List Stmt := by
  refine' lit (a := (fnB (stAt prog.main.body 3))) ?x ?h
  case h => conv => lhs; whnf
noncomputable abbrev pr1 : Arguments := by
  refine' lit (a := (fnP (stAt prog.main.body 3))) ?x ?h
  case h => conv => lhs; whnf
noncomputable abbrev sc1 : Scope := by
  refine' lit (a := (fnS (stAt prog.main.body 3))) ?x ?h
  case h => conv => lhs; whnf
noncomputable abbrev bd2 : List Stmt := by
  refine' lit (a := (fnB (stAt prog.main.body 4))) ?x ?h
  case h => conv => lhs; whnf
noncomputable abbrev pr2 : Arguments := by
  refine' lit (a := (fnP (stAt prog.main.body 4))) ?x ?h
  case h => conv => lhs; whnf
noncomputable abbrev sc2 : Scope := by
  refine' lit (a := (fnS (stAt prog.main.body 4))) ?x ?h
  case h => conv => lhs; whnf
noncomputable abbrev bd3 : List Stmt := by
  refine' lit (a := (fnB (stAt (clsB (stAt prog.main.body 6)) 0))) ?x ?h
  case h => conv => lhs; whnf
noncomputable abbrev pr3 : Arguments := by
  refine' lit (a := (fnP (stAt (clsB (stAt prog.main.body 6)) 0))) ?x ?h
  case h => conv => lhs; whnf
noncomputable abbrev sc3 : Scope := by
  refine' lit (a := (fnS (stAt (clsB (stAt prog.main.body 6)) 0))) ?x ?h
  case h => conv => lhs; whnf
noncomputable abbrev bd4 : List Stmt := by
  refine' lit (a := (fnB (stAt prog.main.body 13))) ?x ?h
  case h => conv => lhs; whnf
noncomputable abbrev pr4 : Arguments := by
  refine' lit (a := (fnP (stAt prog.main.body 13))) ?x ?h
  case h => conv => lhs; whnf
noncomputable abbrev sc4 : Scope := by
  refine' lit (a := (fnS (stAt prog.main.body 13))) ?x ?h
  case h => conv => lhs; whnf
noncomputable abbrev bd5 : List Stmt := by
  refine' lit (a := (fnB (stAt prog.main.body 14))) ?x ?h
  case h => conv => lhs; whnf
noncomputable abbrev pr5 : Arguments := by
  refine' lit (a := (fnP (stAt prog.main.body 14))) ?x ?h
  case h => conv => lhs; whnf
noncomputable abbrev sc5 : Scope := by
  refine' lit (a := (fnS (stAt prog.main.body 14))) ?x ?h
  case h => conv => lhs; whnf
noncomputable abbrev bd6 : List Stmt := by
  refine' lit (a := (fnB (stAt prog.main.body 15))) ?x ?h
  case h => conv => lhs; whnf
noncomputable abbrev pr6 : Arguments := by
  refine' lit (a := (fnP (stAt prog.main.body 15))) ?x ?h
  case h => conv => lhs; whnf
noncomputable abbrev sc6 : Scope := by
  refine' lit (a := (fnS (stAt prog.main.body 15))) ?x ?h
  case h => conv => lhs; whnf
noncomputable abbrev bd7 : List Stmt := by
  refine' lit (a := (fnB (stAt prog.main.body 16))) ?x ?h
  case h => conv => lhs; whnf
noncomputable abbrev pr7 : Arguments := by
  refine' lit (a := (fnP (stAt prog.main.body 16))) ?x ?h
  case h => conv => lhs; whnf
noncomputable abbrev sc7 : Scope := by
  refine' lit (a := (fnS (stAt prog.main.body 16))) ?x ?h
  case h => conv => lhs; whnf
noncomputable abbrev bd8 : List Stmt := by
  refine' lit (a := (fnB (stAt prog.main.body 17))) ?x ?h
  case h => conv => lhs; whnf
noncomputable abbrev pr8 : Arguments := by
  refine' lit (a := (fnP (stAt prog.main.body 17))) ?x ?h
  case h => conv => lhs; whnf
noncomputable abbrev sc8 : Scope := by
  refine' lit (a := (fnS (stAt prog.main.body 17))) ?x ?h
  case h => conv => lhs; whnf
noncomputable abbrev bd9 : List Stmt := by
  refine' lit (a := (fnB (stAt prog.main.body 18))) ?x ?h
  case h => conv => lhs; whnf
noncomputable abbrev pr9 : Arguments := by
  refine' lit (a := (fnP (stAt prog.main.body 18))) ?x ?h
  case h => conv => lhs; whnf
noncomputable abbrev sc9 : Scope := by
  refine' lit (a := (fnS (stAt prog.main.body 18))) ?x ?h
  case h => conv => lhs; whnf
noncomputable abbrev bd10 : List Stmt := by
  refine' lit (a := (fnB (stAt prog.main.body 19))) ?x ?h
  case h => conv => lhs; whnf
noncomputable abbrev pr10 : Arguments := by
  refine' lit (a := (fnP (stAt prog.main.body 19))) ?x ?h
  case h => conv => lhs; whnf
noncomputable abbrev sc10 : Scope := by
  refine' lit (a := (fnS (stAt prog.main.body 19))) ?x ?h
  case h => conv => lhs; whnf
noncomputable abbrev bd11 : List Stmt := by
  refine' lit (a := (fnB (stAt prog.main.body 20))) ?x ?h
  case h => conv => lhs; whnf
noncomputable abbrev pr11 : Arguments := by
  refine' lit (a := (fnP (stAt prog.main.body 20))) ?x ?h
  case h => conv => lhs; whnf
noncomputable abbrev sc11 : Scope := by
  refine' lit (a := (fnS (stAt prog.main.body 20))) ?x ?h
  case h => conv => lhs; whnf
noncomputable abbrev bd12 : List Stmt := by
  refine' lit (a := (fnB (stAt prog.main.body 21))) ?x ?h
  case h => conv => lhs; whnf
noncomputable abbrev pr12 : Arguments := by
  refine' lit (a := (fnP (stAt prog.main.body 21))) ?x ?h
  case h => conv => lhs; whnf
noncomputable abbrev sc12 : Scope := by
  refine' lit (a := (fnS (stAt prog.main.body 21))) ?x ?h
  case h => conv => lhs; whnf
noncomputable abbrev bd13 : List Stmt := by
  refine' lit (a := (fnB (stAt prog.main.body 22))) ?x ?h
  case h => conv => lhs; whnf
noncomputable abbrev pr13 : Arguments := by
  refine' lit (a := (fnP (stAt prog.main.body 22))) ?x ?h
  case h => conv => lhs; whnf
noncomputable abbrev sc13 : Scope := by
  refine' lit (a := (fnS (stAt prog.main.body 22))) ?x ?h
  case h => conv => lhs; whnf
noncomputable abbrev bd14 : List Stmt := by
  refine' lit (a := (fnB (stAt prog.main.body 23))) ?x ?h
  case h => conv => lhs; whnf
noncomputable abbrev pr14 : Arguments := by
  refine' lit (a := (fnP (stAt prog.main.body 23))) ?x ?h
  case h => conv => lhs; whnf
noncomputable abbrev sc14 : Scope := by
  refine' lit (a := (fnS (stAt prog.main.body 23))) ?x ?h
  case h => conv => lhs; whnf
noncomputable abbrev bd15 : List Stmt := by
  refine' lit (a := (fnB (stAt prog.main.body 24))) ?x ?h
  case h => conv => lhs; whnf
noncomputable abbrev pr15 : Arguments := by
  refine' lit (a := (fnP (stAt prog.main.body 24))) ?x ?h
  case h => conv => lhs; whnf
noncomputable abbrev sc15 : Scope := by
  refine' lit (a := (fnS (stAt prog.main.body 24))) ?x ?h
  case h => conv => lhs; whnf
noncomputable abbrev bd16 : List Stmt := by
  refine' lit (a := (fnB (stAt prog.main.body 26))) ?x ?h
  case h => conv => lhs; whnf
noncomputable abbrev pr16 : Arguments := by
  refine' lit (a := (fnP (stAt prog.main.body 26))) ?x ?h
  case h => conv => lhs; whnf
noncomputable abbrev sc16 : Scope := by
  refine' lit (a := (fnS (stAt prog.main.body 26))) ?x ?h
  case h => conv => lhs; whnf
noncomputable abbrev bd17 : List Stmt := by
  refine' lit (a := (fnB (stAt prog.main.body 29))) ?x ?h
  case h => conv => lhs; whnf
noncomputable abbrev pr17 : Arguments := by
  refine' lit (a := (fnP (stAt prog.main.body 29))) ?x ?h
  case h => conv => lhs; whnf
noncomputable abbrev sc17 : Scope := by
  refine' lit (a := (fnS (stAt prog.main.body 29))) ?x ?h
  case h => conv => lhs; whnf
noncomputable abbrev bd18 : List Stmt := by
  refine' lit (a := (fnB (stAt prog.main.body 30))) ?x ?h
  case h => conv => lhs; whnf
noncomputable abbrev pr18 : Arguments := by
  refine' lit (a := (fnP (stAt prog.main.body 30))) ?x ?h
  case h => conv => lhs; whnf
noncomputable abbrev sc18 : Scope := by
  refine' lit (a := (fnS (stAt prog.main.body 30))) ?x ?h
  case h => conv => lhs; whnf
noncomputable abbrev bd19 : List Stmt := by
  refine' lit (a := (fnB (stAt prog.main.body 31))) ?x ?h
  case h => conv => lhs; whnf
noncomputable abbrev pr19 : Arguments := by
  refine' lit (a := (fnP (stAt prog.main.body 31))) ?x ?h
  case h => conv => lhs; whnf
noncomputable abbrev sc19 : Scope := by
  refine' lit (a := (fnS (stAt prog.main.body 31))) ?x ?h
  case h => conv => lhs; whnf
noncomputable abbrev bd20 : List Stmt := by
  refine' lit (a := (fnB (stAt prog.main.body 32))) ?x ?h
  case h => conv => lhs; whnf
noncomputable abbrev pr20 : Arguments := by
  refine' lit (a := (fnP (stAt prog.main.body 32))) ?x ?h
  case h => conv => lhs; whnf
noncomputable abbrev sc20 : Scope := by
  refine' lit (a := (fnS (stAt prog.main.body 32))) ?x ?h
  case h => conv => lhs; whnf
noncomputable abbrev bd21 : List Stmt := by
  refine' lit (a := (fnB (stAt prog.main.body 33))) ?x ?h
  case h => conv => lhs; whnf
noncomputable abbrev pr21 : Arguments := by
  refine' lit (a := (fnP (stAt prog.main.body 33))) ?x ?h
  case h => conv => lhs; whnf
noncomputable abbrev sc21 : Scope := by
  refine' lit (a := (fnS (stAt prog.main.body 33))) ?x ?h
  case h => conv => lhs; whnf
noncomputable abbrev bd22 : List Stmt := by
  refine' lit (a := (fnB (stAt (clsB (stAt prog.main.body 36)) 0))) ?x ?h
  case h => conv => lhs; whnf
noncomputable abbrev pr22 : Arguments := by
  refine' lit (a := (fnP (stAt (clsB (stAt prog.main.body 36)) 0))) ?x ?h
  case h => conv => lhs; whnf
noncomputable abbrev sc22 : Scope := by
  refine' lit (a := (fnS (stAt (clsB (stAt prog.main.body 36)) 0))) ?x ?h
  case h => conv => lhs; whnf
noncomputable abbrev bd23 : List Stmt := by
  refine' lit (a := (fnB (stAt (clsB (stAt prog.main.body 36)) 1))) ?x ?h
  case h => conv => lhs; whnf
noncomputable abbrev pr23 : Arguments := by
  refine' lit (a := (fnP (stAt (clsB (stAt prog.main.body 36)) 1))) ?x ?h
  case h => conv => lhs; whnf
noncomputable abbrev sc23 : Scope := by
  refine' lit (a := (fnS (stAt (clsB (stAt prog.main.body 36)) 1))) ?x ?h
  case h => conv => lhs; whnf
noncomputable abbrev bd24 : List Stmt := by
  refine' lit (a := (fnB (stAt prog.main.body 37))) ?x ?h
  case h => conv => lhs; whnf
noncomputable abbrev pr24 : Arguments := by
  refine' lit (a := (fnP (stAt prog.main.body 37))) ?x ?h
  case h => conv => lhs; whnf
noncomputable abbrev sc24 : Scope := by
  refine' lit (a := (fnS (stAt prog.main.body 37))) ?x ?h
  case h => conv => lhs; whnf
noncomputable abbrev bd25 : List Stmt := by
  refine' lit (a := (fnB (stAt (clsB (stAt prog.main.body 38)) 0))) ?x ?h
  case h => conv => lhs; whnf
noncomputable abbrev pr25 : Arguments := by
  refine' lit (a := (fnP (stAt (clsB (stAt prog.main.body 38)) 0))) ?x ?h
  case h => conv => lhs; whnf
noncomputable abbrev sc25 : Scope := by
  refine' lit (a := (fnS (stAt (clsB (stAt prog.main.body 38)) 0))) ?x ?h
  case h => conv => lhs; whnf
noncomputable abbrev bd26 : List Stmt := by
  refine' lit (a := (fnB (stAt (clsB (stAt prog.main.body 38)) 1))) ?x ?h
  case h => conv => lhs; whnf
noncomputable abbrev pr26 : Arguments := by
  refine' lit (a := (fnP (stAt (clsB (stAt prog.main.body 38)) 1))) ?x ?h
  case h => conv => lhs; whnf
noncomputable abbrev sc26 : Scope := by
  refine' lit (a := (fnS (stAt (clsB (stAt prog.main.body 38)) 1))) ?x ?h
  case h => conv => lhs; whnf
noncomputable abbrev bd27 : List Stmt := by
  refine' lit (a := (fnB (stAt (clsB (stAt prog.main.body 38)) 2))) ?x ?h
  case h => conv => lhs; whnf
noncomputable abbrev pr27 : Arguments := by
  refine' lit (a := (fnP (stAt (clsB (stAt prog.main.body 38)) 2))) ?x ?h
  case h => conv => lhs; whnf
noncomputable abbrev sc27 : Scope := by
  refine' lit (a := (fnS (stAt (clsB (stAt prog.main.body 38)) 2))) ?x ?h
  case h => conv => lhs; whnf
noncomputable abbrev bd28 : List Stmt := by
  refine' lit (a := (fnB (stAt (clsB (stAt prog.main.body 38)) 3))) ?x ?h
  case h => conv => lhs; whnf
noncomputable abbrev pr28 : Arguments := by
  refine' lit (a := (fnP (stAt (clsB (stAt prog.main.body 38)) 3))) ?x ?h
  case h => conv => lhs; whnf
noncomputable abbrev sc28 : Scope := by
  refine' lit (a := (fnS (stAt (clsB (stAt prog.main.body 38)) 3))) ?x ?h
  case h => conv => lhs; whnf
noncomputable abbrev bd29 : List Stmt := by
  refine' lit (a := (fnB (stAt prog.main.body 39))) ?x ?h
  case h => conv => lhs; whnf
noncomputable abbrev pr29 : Arguments := by
  refine' lit (a := (fnP (stAt prog.main.body 39))) ?x ?h
  case h => conv => lhs; whnf
noncomputable abbrev sc29 : Scope := by
  refine' lit (a := (fnS (stAt prog.main.body 39))) ?x ?h
  case h => conv => lhs; whnf
noncomputable abbrev bd30 : List Stmt := by
  refine' lit (a := (fnB (stAt prog.main.body 40))) ?x ?h
  case h => conv => lhs; whnf
noncomputable abbrev pr30 : Arguments := by
  refine' lit (a := (fnP (stAt prog.main.body 40))) ?x ?h
  case h => conv => lhs; whnf
noncomputable abbrev sc30 : Scope := by
  refine' lit (a := (fnS (stAt prog.main.body 40))) ?x ?h
  case h => conv => lhs; whnf
noncomputable abbrev bd31 : List Stmt := by
  refine' lit (a := (fnB (stAt (clsB (stAt prog.main.body 41)) 0))) ?x ?h
  case h => conv => lhs; whnf
noncomputable abbrev pr31 : Arguments := by
  refine' lit (a := (fnP (stAt (clsB (stAt prog.main.body 41)) 0))) ?x ?h
  case h => conv => lhs; whnf
noncomputable abbrev sc31 : Scope := by
  refine' lit (a := (fnS (stAt (clsB (stAt prog.main.body 41)) 0))) ?x ?h
  case h => conv => lhs; whnf
noncomputable abbrev bd32 : List Stmt := by
  refine' lit (a := (fnB (stAt (clsB (stAt prog.main.body 41)) 1))) ?x ?h
  case h => conv => lhs; whnf
noncomputable abbrev pr32 : Arguments := by
  refine' lit (a := (fnP (stAt (clsB (stAt prog.main.body 41)) 1))) ?x ?h
  case h => conv => lhs; whnf
noncomputable abbrev sc32 : Scope := by
  refine' lit (a := (fnS (stAt (clsB (stAt prog.main.body 41)) 1))) ?x ?h
  case h => conv => lhs; whnf
noncomputable abbrev bd33 : List Stmt := by
  refine' lit (a := (fnB (stAt (clsB (stAt prog.main.body 41)) 2))) ?x ?h
  case h => conv => lhs; whnf
noncomputable abbrev pr33 : Arguments := by
  refine' lit (a := (fnP (stAt (clsB (stAt prog.main.body 41)) 2))) ?x ?h
  case h => conv => lhs; whnf
noncomputable abbrev sc33 : Scope := by
  refine' lit (a := (fnS (stAt (clsB (stAt prog.main.body 41)) 2))) ?x ?h
  case h => conv => lhs; whnf
noncomputable abbrev bd34 : List Stmt := by
  refine' lit (a := (fnB (stAt prog.main.body 42))) ?x ?h
  case h => conv => lhs; whnf
noncomputable abbrev pr34 : Arguments := by
  refine' lit (a := (fnP (stAt prog.main.body 42))) ?x ?h
  case h => conv => lhs; whnf
noncomputable abbrev sc34 : Scope := by
  refine' lit (a := (fnS (stAt prog.main.body 42))) ?x ?h
  case h => conv => lhs; whnf
noncomputable abbrev bd35 : List Stmt := by
  refine' lit (a := (fnB (stAt prog.main.body 43))) ?x ?h
  case h => conv => lhs; whnf
noncomputable abbrev pr35 : Arguments := by
  refine' lit (a := (fnP (stAt prog.main.body 43))) ?x ?h
  case h => conv => lhs; whnf
noncomputable abbrev sc35 : Scope := by
  refine' lit (a := (fnS (stAt prog.main.body 43))) ?x ?h
  case h => conv => lhs; whnf
noncomputable abbrev bd36 : List Stmt := by
  refine' lit (a := (fnB (stAt (clsB (stAt prog.main.body 44)) 0))) ?x ?h
  case h => conv => lhs; whnf
noncomputable abbrev pr36 : Arguments := by
  refine' lit (a := (fnP (stAt (clsB (stAt prog.main.body 44)) 0))) ?x ?h
  case h => conv => lhs; whnf
noncomputable abbrev sc36 : Scope := by
  refine' lit (a := (fnS (stAt (clsB (stAt prog.main.body 44)) 0))) ?x ?h
  case h => conv => lhs; whnf
noncomputable abbrev bd37 : List Stmt := by
  refine' lit (a := (fnB (stAt (clsB (stAt prog.main.body 44)) 1))) ?x ?h
  case h => conv => lhs; whnf
noncomputable abbrev pr37 : Arguments := by
  refine' lit (a := (fnP (stAt (clsB (stAt prog.main.body 44)) 1))) ?x ?h
  case h => conv => lhs; whnf
noncomputable abbrev sc37 : Scope := by
  refine' lit (a := (fnS (stAt (clsB (stAt prog.main.body 44)) 1))) ?x ?h
  case h => conv => lhs; whnf
noncomputable abbrev bd38 : List Stmt := by
  refine' lit (a := (fnB (stAt (clsB (stAt prog.main.body 44)) 2))) ?x ?h
  case h => conv => lhs; whnf
noncomputable abbrev pr38 : Arguments := by
  refine' lit (a := (fnP (stAt (clsB (stAt prog.main.body 44)) 2))) ?x ?h
  case h => conv => lhs; whnf
noncomputable abbrev sc38 : Scope := by
  refine' lit (a := (fnS (stAt (clsB (stAt prog.main.body 44)) 2))) ?x ?h
  case h => conv => lhs; whnf
noncomputable abbrev bd39 : List Stmt := by
  refine' lit (a := (fnB (stAt (clsB (stAt prog.main.body 46)) 0))) ?x ?h
  case h => conv => lhs; whnf
noncomputable abbrev pr39 : Arguments := by
  refine' lit (a := (fnP (stAt (clsB (stAt prog.main.body 46)) 0))) ?x ?h
  case h => conv => lhs; whnf
noncomputable abbrev sc39 : Scope := by
  refine' lit (a := (fnS (stAt (clsB (stAt prog.main.body 46)) 0))) ?x ?h
  case h => conv => lhs; whnf
noncomputable abbrev bd40 : List Stmt := by
  refine' lit (a := (fnB (stAt (clsB (stAt prog.main.body 46)) 1))) ?x ?h
  case h => conv => lhs; whnf
noncomputable abbrev pr40 : Arguments := by
  refine' lit (a := (fnP (stAt (clsB (stAt prog.main.body 46)) 1))) ?x ?h
  case h => conv => lhs; whnf
noncomputable abbrev sc40 : Scope := by
  refine' lit (a := (fnS (stAt (clsB (stAt prog.main.body 46)) 1))) ?x ?h
  case h => conv => lhs; whnf
noncomputable abbrev bd41 : List Stmt := by
  refine' lit (a := (fnB (stAt (clsB (stAt prog.main.body 46)) 2))) ?x ?h
  case h => conv => lhs; whnf
noncomputable abbrev pr41 : Arguments := by
  refine' lit (a := (fnP (stAt (clsB (stAt prog.main.body 46)) 2))) ?x ?h
  case h => conv => lhs; whnf
noncomputable abbrev sc41 : Scope := by
  refine' lit (a := (fnS (stAt (clsB (stAt prog.main.body 46)) 2))) ?x ?h
  case h => conv => lhs; whnf
noncomputable abbrev bd42 : List Stmt := by
  refine' lit (a := (fnB (stAt (clsB (stAt prog.main.body 46)) 3))) ?x ?h
  case h => conv => lhs; whnf
noncomputable abbrev pr42 : Arguments := by
  refine' lit (a := (fnP (stAt (clsB (stAt prog.main.body 46)) 3))) ?x ?h
  case h => conv => lhs; whnf
noncomputable abbrev sc42 : Scope := by
  refine' lit (a := (fnS (stAt (clsB (stAt prog.main.body 46)) 3))) ?x ?h
  case h => conv => lhs; whnf
noncomputable abbrev bd43 : List Stmt := by
  refine' lit (a := (fnB (stAt (clsB (stAt prog.main.body 46)) 4))) ?x ?h
  case h => conv => lhs; whnf
noncomputable abbrev pr43 : Arguments := by
  refine' lit (a := (fnP (stAt (clsB (stAt prog.main.body 46)) 4))) ?x ?h
  case h => conv => lhs; whnf
noncomputable abbrev sc43 : Scope := by
  refine' lit (a := (fnS (stAt (clsB (stAt prog.main.body 46)) 4))) ?x ?h
  case h => conv => lhs; whnf
noncomputable abbrev bd44 : List Stmt := by
  refine' lit (a := (fnB (stAt (clsB (stAt prog.main.body 46)) 5))) ?x ?h
  case h => conv => lhs; whnf
noncomputable abbrev pr44 : Arguments := by
  refine' lit (a := (fnP (stAt (clsB (stAt prog.main.body 46)) 5))) ?x ?h
  case h => conv => lhs; whnf
noncomputable abbrev sc44 : Scope := by
  refine' lit (a := (fnS (stAt (clsB (stAt prog.main.body 46)) 5))) ?x ?h
  case h => conv => lhs; whnf
noncomputable abbrev bd45 : List Stmt := by
  refine' lit (a := (fnB (stAt (clsB (stAt prog.main.body 46)) 6))) ?x ?h
  case h => conv => lhs; whnf
noncomputable abbrev pr45 : Arguments := by
  refine' lit (a := (fnP (stAt (clsB (stAt prog.main.body 46)) 6))) ?x ?h
  case h => conv => lhs; whnf
noncomputable abbrev sc45 : Scope := by
  refine' lit (a := (fnS (stAt (clsB (stAt prog.main.body 46)) 6))) ?x ?h
  case h => conv => lhs; whnf
noncomputable abbrev bd46 : List Stmt := by
  refine' lit (a := (fnB (stAt prog.main.body 47))) ?x ?h
  case h => conv => lhs; whnf
noncomputable abbrev pr46 : Arguments := by
  refine' lit (a := (fnP (stAt prog.main.body 47))) ?x ?h
  case h => conv => lhs; whnf
noncomputable abbrev sc46 : Scope := by
  refine' lit (a := (fnS (stAt prog.main.body 47))) ?x ?h
  case h => conv => lhs; whnf
noncomputable abbrev bd47 : List Stmt := by
  refine' lit (a := (fnB (stAt prog.main.body 49))) ?x ?h
  case h => conv => lhs; whnf
noncomputable abbrev pr47 : Arguments := by
  refine' lit (a := (fnP (stAt prog.main.body 49))) ?x ?h
  case h => conv => lhs; whnf
noncomputable abbrev sc47 : Scope := by
  refine' lit (a := (fnS (stAt prog.main.body 49))) ?x ?h
  case h => conv => lhs; whnf
noncomputable abbrev bd48 : List Stmt := by
  refine' lit (a := (fnB (stAt prog.main.body 50))) ?x ?h
  case h => conv => lhs; whnf
noncomputable abbrev pr48 : Arguments := by
  refine' lit (a := (fnP (stAt prog.main.body 50))) ?x ?h
  case h => conv => lhs; whnf
noncomputable abbrev sc48 : Scope := by
  refine' lit (a := (fnS (stAt prog.main.body 50))) ?x ?h
  case h => conv => lhs; whnf
noncomputable abbrev bd49 : List Stmt := by
  refine' lit (a := (fnB (stAt prog.main.body 51))) ?x ?h
  case h => conv => lhs; whnf
noncomputable abbrev pr49 : Arguments := by
  refine' lit (a := (fnP (stAt prog.main.body 51))) ?x ?h
  case h => conv => lhs; whnf
noncomputable abbrev sc49 : Scope := by
  refine' lit (a := (fnS (stAt prog.main.body 51))) ?x ?h
  case h => conv => lhs; whnf
noncomputable abbrev bd50 : List Stmt := by
  refine' lit (a := (fnB (stAt prog.main.body 52))) ?x ?h
  case h => conv => lhs; whnf
noncomputable abbrev pr50 : Arguments := by
  refine' lit (a := (fnP (stAt prog.main.body 52))) ?x ?h
  case h => conv => lhs; whnf
noncomputable abbrev sc50 : Scope := by
  refine' lit (a := (fnS (stAt prog.main.body 52))) ?x ?h
  case h => conv => lhs; whnf
noncomputable abbrev bd51 : List Stmt := by
  refine' lit (a := (fnB (stAt prog.main.body 53))) ?x ?h
  case h => conv => lhs; whnf
noncomputable abbrev pr51 : Arguments := by
  refine' lit (a := (fnP (stAt prog.main.body 53))) ?x ?h
  case h => conv => lhs; whnf
noncomputable abbrev sc51 : Scope := by
  refine' lit (a := (fnS (stAt prog.main.body 53))) ?x ?h
  case h => conv => lhs; whnf
noncomputable abbrev bd52 : List Stmt := by
  refine' lit (a := (fnB (stAt prog.main.body 54))) ?x ?h
  case h => conv => lhs; whnf
noncomputable abbrev pr52 : Arguments := by
  refine' lit (a := (fnP (stAt prog.main.body 54))) ?x ?h
  case h => conv => lhs; whnf
noncomputable abbrev sc52 : Scope := by
  refine' lit (a := (fnS (stAt prog.main.body 54))) ?x ?h
  case h => conv => lhs; whnf
noncomputable abbrev bd53 : List Stmt := by
  refine' lit (a := (fnB (stAt prog.main.body 55))) ?x ?h
  case h => conv => lhs; whnf
noncomputable abbrev pr53 : Arguments := by
  refine' lit (a := (fnP (stAt prog.main.body 55))) ?x ?h
  case h => conv => lhs; whnf
noncomputable abbrev sc53 : Scope := by
  refine' lit (a := (fnS (stAt prog.main.body 55))) ?x ?h
  case h => conv => lhs; whnf
noncomputable abbrev bd54 : List Stmt := by
  refine' lit (a := (fnB (stAt prog.main.body 56))) ?x ?h
  case h => conv => lhs; whnf
noncomputable abbrev pr54 : Arguments := by
  refine' lit (a := (fnP (stAt prog.main.body 56))) ?x ?h
  case h => conv => lhs; whnf
noncomputable abbrev sc54 : Scope := by
  refine' lit (a := (fnS (stAt prog.main.body 56))) ?x ?h
  case h => conv => lhs; whnf
noncomputable abbrev bd55 : List Stmt := by
  refine' lit (a := (fnB (stAt prog.main.body 57))) ?x ?h
  case h => conv => lhs; whnf
noncomputable abbrev pr55 : Arguments := by
  refine' lit (a := (fnP (stAt prog.main.body 57))) ?x ?h
  case h => conv => lhs; whnf
noncomputable abbrev sc55 : Scope := by
  refine' lit (a := (fnS (stAt prog.main.body 57))) ?x ?h
  case h => conv => lhs; whnf
noncomputable abbrev bd56 : List Stmt := by
  refine' lit (a := (fnB (stAt prog.main.body 58))) ?x ?h
  case h => conv => lhs; whnf
noncomputable abbrev pr56 : Arguments := by
  refine' lit (a := (fnP (stAt prog.main.body 58))) ?x ?h
  case h => conv => lhs; whnf
noncomputable abbrev sc56 : Scope := by
  refine' lit (a := (fnS (stAt prog.main.body 58))) ?x ?h
  case h => conv => lhs; whnf
noncomputable abbrev bd57 : List Stmt := by
  refine' lit (a := (fnB (stAt prog.main.body 59))) ?x ?h
  case h => conv => lhs; whnf
noncomputable abbrev pr57 : Arguments := by
  refine' lit (a := (fnP (stAt prog.main.body 59))) ?x ?h
  case h => conv => lhs; whnf
noncomputable abbrev sc57 : Scope := by
  refine' lit (a := (fnS (stAt prog.main.body 59))) ?x ?h
  case h => conv => lhs; whnf
noncomputable abbrev bd58 : List Stmt := by
  refine' lit (a := (fnB (stAt prog.main.body 60))) ?x ?h
  case h => conv => lhs; whnf
noncomputable abbrev pr58 : Arguments := by
  refine' lit (a := (fnP (stAt prog.main.body 60))) ?x ?h
  case h => conv => lhs; whnf
noncomputable abbrev sc58 : Scope := by
  refine' lit (a := (fnS (stAt prog.main.body 60))) ?x ?h
  case h => conv => lhs; whnf
noncomputable abbrev bd59 : List Stmt := by
  refine' lit (a := (fnB (stAt prog.main.body 61))) ?x ?h
  case h => conv => lhs; whnf
noncomputable abbrev pr59 : Arguments := by
  refine' lit (a := (fnP (stAt prog.main.body 61))) ?x ?h
  case h => conv => lhs; whnf
noncomputable abbrev sc59 : Scope := by
  refine' lit (a := (fnS (stAt prog.main.body 61))) ?x ?h
  case h => conv => lhs; whnf
noncomputable abbrev bd60 : List Stmt := by
  refine' lit (a := (fnB (stAt prog.main.body 62))) ?x ?h
  case h => conv => lhs; whnf
noncomputable abbrev pr60 : Arguments := by
  refine' lit (a := (fnP (stAt prog.main.body 62))) ?x ?h
  case h => conv => lhs; whnf
noncomputable abbrev sc60 : Scope := by
  refine' lit (a := (fnS (stAt prog.main.body 62))) ?x ?h
  case h => conv => lhs; whnf
noncomputable def a2 (P : Params) : Obj := ⟨.none, none, (.dict #[(de P "type.__subclasses__.Exception.0" 241 (.int 52 0)), (de P "type.__subclasses__.Exception.n" 242 (.int 1 0))] 2), #[]⟩
noncomputable def a3 (P : Params) : Obj := ⟨(.type "dict"), none, (.dict ((de P "__name__" 165 (.str (.ofString "law_nu0030_01") 824)) :: (de P "__doc__" 166 .none) :: (de P "__package__" 167 .none) :: (de P "__loader__" 168 (.builtin "__main__.__loader__#opaque")) :: (de P "__spec__" 169 .none) :: (de P "__annotations__" 170 (.ref 6)) :: (de P "__builtins__" 171 (.ref 4)) :: (de P "__file__" 173 (.str (.ofString "/claim/cut.py") 172)) :: (de P "__cached__" 174 .none) :: (de P "_wall" 193 (.ref 21)) :: (de P "MOST" 197 (.int 255 196)) :: (de P "weighted" 205 (.ref 28)) :: (de P "premultiplied" 213 (.ref 35)) :: (de P "MillError" 244 (.ref 52)) :: (de P "NumberFault" 260 (.ref 65)) :: (de P "MatrixFault" 276 (.ref 77)) :: (de P "SheetFault" 292 (.ref 89)) :: (de P "ZERO" 297 (.ref 92)) :: (de P "ONE" 300 (.ref 93)) :: (de P "common_divisor" 310 (.ref 100)) :: (de P "fraction" 320 (.ref 108)) :: (de P "plus" 328 (.ref 115)) :: (de P "minus" 336 (.ref 122)) :: (de P "times" 344 (.ref 129)) :: (de P "divided" 352 (.ref 136)) :: (de P "negated" 359 (.ref 143)) :: (de P "sign_of" 366 (.ref 150)) :: (de P "compare" 374 (.ref 157)) :: (de P "floor_of" 381 (.ref 164)) :: (de P "rounded" 388 (.ref 171)) :: (de P "root_floor" 397 (.ref 178)) :: (de P "middle_of" 407 (.ref 185)) :: (de P "KINDS" 413 (.ref 186)) :: (de P "check_kind" 420 (.ref 193)) :: (de P "part_of" 427 (.ref 200)) :: (de P "reflected" 436 (.ref 207)) :: (de P "padded" 443 (.ref 214)) :: (de P "spread" 451 (.ref 221)) :: (de P "CLEAR" 458 (.ref 222)) :: (de P "Stop" 498 (.ref 246)) :: (de P "between_parts" 507 (.ref 257)) :: (de P "Stops" 564 (.ref 293)) :: (de P "less" 572 (.ref 304)) :: (de P "product" 580 (.ref 311)) :: (de P "Linear" 638 (.ref 342)) :: (de P "root_of" 646 (.ref 353)) :: (de P "focus_within" 658 (.ref 360)) :: (de P "Radial" 723 (.ref 392)) :: (de P "Matrix" 817 (.ref 455)) :: (de P "identity" 823 (.ref 466)) :: (de P "_law_pool" 836 (.ref 473)) :: (de P "_law_take" 845 (.ref 480)) :: (de P "_law_one" 853 (.ref 487)) :: (de P "_law_stops" 859 (.ref 492)) :: (de P "_law_ordered" 871 (.ref 499)) :: (de P "_law_spread" 880 (.ref 506)) :: (de P "_law_weighted" 886 (.ref 511)) :: (de P "_law_colour" 892 (.ref 516)) :: (de P "_law_middle" 900 (.ref 523)) :: (de P "_law_line_right" 920 (.ref 530)) :: (de P "_law_round_right" 939 (.ref 537)) :: (de P "_law_refused" 949 (.ref 544)) :: (de P "_law_odd_right" 963 (.ref 551)) :: (de P "law" 969 (.ref 556)) :: [] : List _).toArray 64), #[]⟩
noncomputable def a11 (P : Params) : Obj := ⟨(.type "tuple"), none, (.seq #[] 0), #[]⟩
noncomputable def a12 (P : Params) : Obj := ⟨.none, none, (.fields ((.int 1 0) :: (.int 0 0) :: (.ref 20) :: (.int 6 0) :: (.int 0 0) :: (.ref 27) :: (.int 8 0) :: (.int 0 0) :: (.ref 34) :: (.int 11 0) :: (.int 0 0) :: (.ref 41) :: (.int 15 0) :: (.int 0 0) :: (.ref 61) :: (.int 17 0) :: (.int 0 0) :: (.ref 73) :: (.int 19 0) :: (.int 0 0) :: (.ref 85) :: (.int 24 0) :: (.int 0 0) :: (.ref 99) :: (.int 29 0) :: (.int 0 0) :: (.ref 107) :: (.int 36 0) :: (.int 0 0) :: (.ref 114) :: (.int 38 0) :: (.int 0 0) :: (.ref 121) :: (.int 40 0) :: (.int 0 0) :: (.ref 128) :: (.int 42 0) :: (.int 0 0) :: (.ref 135) :: (.int 46 0) :: (.int 0 0) :: (.ref 142) :: (.int 48 0) :: (.int 0 0) :: (.ref 149) :: (.int 54 0) :: (.int 0 0) :: (.ref 156) :: (.int 56 0) :: (.int 0 0) :: (.ref 163) :: (.int 58 0) :: (.int 0 0) :: (.ref 170) :: (.int 60 0) :: (.int 0 0) :: (.ref 177) :: (.int 74 0) :: (.int 0 0) :: (.ref 184) :: (.int 78 0) :: (.int 0 0) :: (.ref 192) :: (.int 81 0) :: (.int 0 0) :: (.ref 199) :: (.int 83 0) :: (.int 0 0) :: (.ref 206) :: (.int 86 0) :: (.int 0 0) :: (.ref 213) :: (.int 90 0) :: (.int 0 0) :: (.ref 220) :: (.int 97 0) :: (.int 0 0) :: (.ref 228) :: (.int 106 0) :: (.int 0 0) :: (.ref 256) :: (.int 108 0) :: (.int 0 0) :: (.ref 263) :: (.int 141 0) :: (.int 0 0) :: (.ref 303) :: (.int 143 0) :: (.int 0 0) :: (.ref 310) :: (.int 145 0) :: (.int 0 0) :: (.ref 317) :: (.int 167 0) :: (.int 0 0) :: (.ref 352) :: (.int 169 0) :: (.int 0 0) :: (.ref 359) :: (.int 176 0) :: (.int 0 0) :: (.ref 366) :: (.int 207 0) :: (.int 0 0) :: (.ref 402) :: (.int 241 0) :: (.int 0 0) :: (.ref 465) :: (.int 244 0) :: (.int 0 0) :: (.ref 472) :: (.int 251 0) :: (.int 0 0) :: (.ref 479) :: (.int 258 0) :: (.int 0 0) :: (.ref 486) :: (.int 260 0) :: (.int 0 0) :: (.ref 491) :: (.int 266 0) :: (.int 0 0) :: (.ref 498) :: (.int 272 0) :: (.int 0 0) :: (.ref 505) :: (.int 278 0) :: (.int 0 0) :: (.ref 510) :: (.int 280 0) :: (.int 0 0) :: (.ref 515) :: (.int 289 0) :: (.int 0 0) :: (.ref 522) :: (.int 291 0) :: (.int 0 0) :: (.ref 529) :: (.int 305 0) :: (.int 0 0) :: (.ref 536) :: (.int 314 0) :: (.int 0 0) :: (.ref 543) :: (.int 321 0) :: (.int 0 0) :: (.ref 550) :: (.int 330 0) :: (.int 0 0) :: (.ref 555) :: [] : List _).toArray), #[]⟩
noncomputable def a13 (P : Params) : Obj := ⟨(.type "code"), none, (.fields #[(.str (.ofString "<module>") 182), (.str (.ofString "<module>") 183), (.str (.ofString "/claim/cut.py") 184), (.int 1 0), (.int 0 0), (.int 0 0), (.int 0 0), (.int 0 0), (.ref 11), (.bool false), (.int 181 0), (.ref 12), .none, .none, .none, .none, (.int 185 0), (.int 1 0), (.str (.ofString "/claim/cut.py") 186)]), #[]⟩
noncomputable def a14 (P : Params) : Obj := ⟨(.type "frame"), none, .plain, #[(some (.ref 13)), (some (.ref 3)), (some (.ref 3)), none, (some (.str (.ofString "__main__") 164)), none, (some (.ref 0))]⟩
noncomputable def a15 (P : Params) : Obj := ⟨(.type "tuple"), none, (.seq #[] 0), #[]⟩
noncomputable def a16 (P : Params) : Obj := ⟨.none, none, (.fields #[]), #[]⟩
noncomputable def a17 (P : Params) : Obj := ⟨(.type "tuple"), none, (.seq #[(.str (.ofString "k") 190)] 0), #[]⟩
noncomputable def a18 (P : Params) : Obj := ⟨(.type "tuple"), none, (.seq #[] 0), #[]⟩
noncomputable def a19 (P : Params) : Obj := ⟨.none, none, (.func ⟨(.ofString "_wall"), (.ofString "_wall"), pr0, .stmts bd0, sc0, 0, [], .none, .none, .none, .none, none, .none, .none, 0⟩), #[]⟩
noncomputable def a20 (P : Params) : Obj := ⟨(.type "code"), none, (.fields #[(.str (.ofString "_wall") 187), (.str (.ofString "_wall") 188), (.str (.ofString "/claim/cut.py") 189), (.int 1 0), (.int 1 0), (.int 0 0), (.int 0 0), (.int 3 0), (.ref 15), (.bool true), (.int 181 0), (.ref 16), .none, (.ref 17), (.ref 18), (.ref 19), (.int 191 0), (.int 1 0), (.str (.ofString "/claim/cut.py") 192)]), #[]⟩
noncomputable def a21 (P : Params) : Obj := ⟨(.type "function"), none, (.func ⟨(.ofString "_wall"), (.ofString "_wall"), pr0, .stmts bd0, sc0, 3, [], .none, .none, .none, (.str (.ofString "__main__") 164), none, (.ref 20), .none, 0⟩), #[]⟩
noncomputable def a22 (P : Params) : Obj := ⟨(.type "tuple"), none, (.seq #[] 0), #[]⟩
noncomputable def a23 (P : Params) : Obj := ⟨.none, none, (.fields #[]), #[]⟩
noncomputable def a24 (P : Params) : Obj := ⟨(.type "tuple"), none, (.seq #[(.str (.ofString "n") 201), (.str (.ofString "alpha") 202)] 0), #[]⟩
noncomputable def a25 (P : Params) : Obj := ⟨(.type "tuple"), none, (.seq #[] 0), #[]⟩
noncomputable def a26 (P : Params) : Obj := ⟨.none, none, (.func ⟨(.ofString "weighted"), (.ofString "weighted"), pr1, .stmts bd1, sc1, 0, [], .none, .none, .none, .none, none, .none, .none, 0⟩), #[]⟩
noncomputable def a27 (P : Params) : Obj := ⟨(.type "code"), none, (.fields #[(.str (.ofString "weighted") 198), (.str (.ofString "weighted") 199), (.str (.ofString "/claim/cut.py") 200), (.int 6 0), (.int 2 0), (.int 0 0), (.int 0 0), (.int 3 0), (.ref 22), (.bool true), (.int 181 0), (.ref 23), .none, (.ref 24), (.ref 25), (.ref 26), (.int 203 0), (.int 6 0), (.str (.ofString "/claim/cut.py") 204)]), #[]⟩
noncomputable def a28 (P : Params) : Obj := ⟨(.type "function"), none, (.func ⟨(.ofString "weighted"), (.ofString "weighted"), pr1, .stmts bd1, sc1, 3, [], .none, .none, .none, (.str (.ofString "outlinemill.colours") 194), none, (.ref 27), .none, 0⟩), #[]⟩
noncomputable def a29 (P : Params) : Obj := ⟨(.type "tuple"), none, (.seq #[] 0), #[]⟩
noncomputable def a30 (P : Params) : Obj := ⟨.none, none, (.fields #[]), #[]⟩
noncomputable def a31 (P : Params) : Obj := ⟨(.type "tuple"), none, (.seq #[(.str (.ofString "shade") 209), (.str (.ofString "alpha") 210)] 0), #[]⟩
noncomputable def a32 (P : Params) : Obj := ⟨(.type "tuple"), none, (.seq #[] 0), #[]⟩
noncomputable def a33 (P : Params) : Obj := ⟨.none, none, (.func ⟨(.ofString "premultiplied"), (.ofString "premultiplied"), pr2, .stmts bd2, sc2, 0, [], .none, .none, .none, .none, none, .none, .none, 0⟩), #[]⟩
noncomputable def a34 (P : Params) : Obj := ⟨(.type "code"), none, (.fields #[(.str (.ofString "premultiplied") 206), (.str (.ofString "premultiplied") 207), (.str (.ofString "/claim/cut.py") 208), (.int 8 0), (.int 2 0), (.int 0 0), (.int 0 0), (.int 3 0), (.ref 29), (.bool true), (.int 181 0), (.ref 30), .none, (.ref 31), (.ref 32), (.ref 33), (.int 211 0), (.int 8 0), (.str (.ofString "/claim/cut.py") 212)]), #[]⟩
noncomputable def a35 (P : Params) : Obj := ⟨(.type "function"), none, (.func ⟨(.ofString "premultiplied"), (.ofString "premultiplied"), pr2, .stmts bd2, sc2, 3, [], .none, .none, .none, (.str (.ofString "outlinemill.colours") 194), none, (.ref 34), .none, 0⟩), #[]⟩
noncomputable def a36 (P : Params) : Obj := ⟨(.type "tuple"), none, (.seq #[(.type "Exception")] 0), #[]⟩
noncomputable def a37 (P : Params) : Obj := ⟨(.type "builtin_function_or_method"), none, (.fields #[(.builtin "type.__prepare__"), (.type "type")]), #[]⟩
noncomputable def a38 (P : Params) : Obj := ⟨(.type "dict"), none, (.dict #[(de P "__module__" 223 (.str (.ofString "outlinemill.errors") 214)), (de P "__qualname__" 225 (.str (.ofString "MillError") 224)), (de P "__firstlineno__" 227 (.int 11 226)), (de P "__init__" 235 (.ref 49)), (de P "__static_attributes__" 237 (.ref 50))] 5), #[]⟩
noncomputable def a39 (P : Params) : Obj := ⟨(.type "tuple"), none, (.seq #[] 0), #[]⟩
noncomputable def a40 (P : Params) : Obj := ⟨.none, none, (.fields #[(.int 13 0), (.int 4 0), (.ref 48)]), #[]⟩
noncomputable def a41 (P : Params) : Obj := ⟨(.type "code"), none, (.fields #[(.str (.ofString "MillError") 218), (.str (.ofString "MillError") 219), (.str (.ofString "/claim/cut.py") 220), (.int 11 0), (.int 0 0), (.int 0 0), (.int 0 0), (.int 0 0), (.ref 39), (.bool false), (.int 181 0), (.ref 40), .none, .none, .none, .none, (.int 221 0), (.int 11 0), (.str (.ofString "/claim/cut.py") 222)]), #[]⟩
noncomputable def a42 (P : Params) : Obj := ⟨(.type "frame"), none, .plain, #[(some (.ref 41)), (some (.ref 3)), (some (.ref 38)), none, (some (.str (.ofString "outlinemill.errors") 214)), none, (some (.ref 0))]⟩
noncomputable def a43 (P : Params) : Obj := ⟨(.type "tuple"), none, (.seq #[] 0), #[]⟩
noncomputable def a44 (P : Params) : Obj := ⟨.none, none, (.fields #[]), #[]⟩
noncomputable def a45 (P : Params) : Obj := ⟨(.type "tuple"), none, (.seq #[(.str (.ofString "self") 231), (.str (.ofString "message") 232)] 0), #[]⟩
noncomputable def a46 (P : Params) : Obj := ⟨(.type "tuple"), none, (.seq #[] 0), #[]⟩
noncomputable def a47 (P : Params) : Obj := ⟨.none, none, (.func ⟨(.ofString "__init__"), (.ofString "MillError.__init__"), pr3, .stmts bd3, sc3, 0, [], .none, .none, .none, .none, none, .none, .none, 0⟩), #[]⟩
noncomputable def a48 (P : Params) : Obj := ⟨(.type "code"), none, (.fields #[(.str (.ofString "__init__") 228), (.str (.ofString "MillError.__init__") 229), (.str (.ofString "/claim/cut.py") 230), (.int 13 0), (.int 2 0), (.int 0 0), (.int 0 0), (.int 3 0), (.ref 43), (.bool true), (.int 181 0), (.ref 44), .none, (.ref 45), (.ref 46), (.ref 47), (.int 233 0), (.int 13 0), (.str (.ofString "/claim/cut.py") 234)]), #[]⟩
noncomputable def a49 (P : Params) : Obj := ⟨(.type "function"), none, (.func ⟨(.ofString "__init__"), (.ofString "MillError.__init__"), pr3, .stmts bd3, sc3, 3, [], .none, .none, .none, (.str (.ofString "outlinemill.errors") 214), none, (.ref 48), .none, 0⟩), #[]⟩
noncomputable def a50 (P : Params) : Obj := ⟨(.type "tuple"), none, (.seq #[(.str (.ofString "message") 236)] 0), #[]⟩
noncomputable def a51 (P : Params) : Obj := ⟨(.type "dict"), none, (.dict #[(de P "__module__" 223 (.str (.ofString "outlinemill.errors") 214)), (de P "__firstlineno__" 227 (.int 11 226)), (de P "__init__" 235 (.ref 49)), (de P "__static_attributes__" 237 (.ref 50)), (de P "__weakref__" 239 (.ref 53)), (de P "__doc__" 240 .none)] 3), #[]⟩
noncomputable def a52 (P : Params) : Obj := ⟨(.type "type"), none, (.cls ⟨(.ofString "MillError"), [(.type "Exception")], [(.ref 52), (.type "Exception"), (.type "BaseException"), (.type "object")], 51, (.ofString "MillError"), true, [], [(.ref 65), (.ref 77), (.ref 89)], false, none, false⟩), #[(some (.ref 36)), none, (some (.str (.ofString "MillError") 216)), (some (.str (.ofString "MillError") 224)), (some (.builtin "Exception.__new__")), (some (.bool true))]⟩
noncomputable def a53 (P : Params) : Obj := ⟨(.type "getset_descriptor"), none, (.fields #[(.str (.ofString "__weakref__") 238), (.ref 52), (.builtin "ExceptionGroup.__weakref__"), .none]), #[]⟩
noncomputable def a54 (P : Params) : Obj := ⟨(.type "super"), none, (.fields #[(.ref 52), (.ref 52), (.ref 52)]), #[]⟩
noncomputable def a55 (P : Params) : Obj := ⟨(.type "builtin_function_or_method"), none, (.fields #[(.builtin "object.__init_subclass__"), (.ref 52)]), #[]⟩
noncomputable def a56 (P : Params) : Obj := ⟨(.type "tuple"), none, (.seq #[(.ref 52)] 0), #[]⟩
noncomputable def a57 (P : Params) : Obj := ⟨(.type "builtin_function_or_method"), none, (.fields #[(.builtin "type.__prepare__"), (.type "type")]), #[]⟩
noncomputable def a58 (P : Params) : Obj := ⟨(.type "dict"), none, (.dict #[(de P "__module__" 252 (.str (.ofString "outlinemill.errors") 214)), (de P "__qualname__" 254 (.str (.ofString "NumberFault") 253)), (de P "__firstlineno__" 256 (.int 15 255)), (de P "__static_attributes__" 257 (.ref 63))] 4), #[]⟩
noncomputable def a59 (P : Params) : Obj := ⟨(.type "tuple"), none, (.seq #[] 0), #[]⟩
noncomputable def a60 (P : Params) : Obj := ⟨.none, none, (.fields #[]), #[]⟩
noncomputable def a61 (P : Params) : Obj := ⟨(.type "code"), none, (.fields #[(.str (.ofString "NumberFault") 247), (.str (.ofString "NumberFault") 248), (.str (.ofString "/claim/cut.py") 249), (.int 15 0), (.int 0 0), (.int 0 0), (.int 0 0), (.int 0 0), (.ref 59), (.bool false), (.int 181 0), (.ref 60), .none, .none, .none, .none, (.int 250 0), (.int 15 0), (.str (.ofString "/claim/cut.py") 251)]), #[]⟩
noncomputable def a62 (P : Params) : Obj := ⟨(.type "frame"), none, .plain, #[(some (.ref 61)), (some (.ref 3)), (some (.ref 58)), none, (some (.str (.ofString "outlinemill.errors") 214)), none, (some (.ref 0))]⟩
noncomputable def a63 (P : Params) : Obj := ⟨(.type "tuple"), none, (.seq #[] 0), #[]⟩
noncomputable def a64 (P : Params) : Obj := ⟨(.type "dict"), none, (.dict #[(de P "__module__" 252 (.str (.ofString "outlinemill.errors") 214)), (de P "__firstlineno__" 256 (.int 15 255)), (de P "__static_attributes__" 257 (.ref 63)), (de P "__doc__" 258 .none)] 2), #[]⟩
noncomputable def a65 (P : Params) : Obj := ⟨(.type "type"), none, (.cls ⟨(.ofString "NumberFault"), [(.ref 52)], [(.ref 65), (.ref 52), (.type "Exception"), (.type "BaseException"), (.type "object")], 64, (.ofString "NumberFault"), true, [], [], false, none, false⟩), #[(some (.ref 56)), none, (some (.str (.ofString "NumberFault") 245)), (some (.str (.ofString "NumberFault") 253)), (some (.builtin "Exception.__new__")), (some (.bool true))]⟩
noncomputable def a66 (P : Params) : Obj := ⟨(.type "super"), none, (.fields #[(.ref 65), (.ref 65), (.ref 65)]), #[]⟩
noncomputable def a67 (P : Params) : Obj := ⟨(.type "builtin_function_or_method"), none, (.fields #[(.builtin "object.__init_subclass__"), (.ref 65)]), #[]⟩
noncomputable def a68 (P : Params) : Obj := ⟨(.type "tuple"), none, (.seq #[(.ref 52)] 0), #[]⟩
noncomputable def a69 (P : Params) : Obj := ⟨(.type "builtin_function_or_method"), none, (.fields #[(.builtin "type.__prepare__"), (.type "type")]), #[]⟩
noncomputable def a70 (P : Params) : Obj := ⟨(.type "dict"), none, (.dict #[(de P "__module__" 268 (.str (.ofString "outlinemill.errors") 214)), (de P "__qualname__" 270 (.str (.ofString "MatrixFault") 269)), (de P "__firstlineno__" 272 (.int 17 271)), (de P "__static_attributes__" 273 (.ref 75))] 4), #[]⟩
noncomputable def a71 (P : Params) : Obj := ⟨(.type "tuple"), none, (.seq #[] 0), #[]⟩
noncomputable def a72 (P : Params) : Obj := ⟨.none, none, (.fields #[]), #[]⟩
noncomputable def a73 (P : Params) : Obj := ⟨(.type "code"), none, (.fields #[(.str (.ofString "MatrixFault") 263), (.str (.ofString "MatrixFault") 264), (.str (.ofString "/claim/cut.py") 265), (.int 17 0), (.int 0 0), (.int 0 0), (.int 0 0), (.int 0 0), (.ref 71), (.bool false), (.int 181 0), (.ref 72), .none, .none, .none, .none, (.int 266 0), (.int 17 0), (.str (.ofString "/claim/cut.py") 267)]), #[]⟩
noncomputable def a74 (P : Params) : Obj := ⟨(.type "frame"), none, .plain, #[(some (.ref 73)), (some (.ref 3)), (some (.ref 70)), none, (some (.str (.ofString "outlinemill.errors") 214)), none, (some (.ref 0))]⟩
noncomputable def a75 (P : Params) : Obj := ⟨(.type "tuple"), none, (.seq #[] 0), #[]⟩
noncomputable def a76 (P : Params) : Obj := ⟨(.type "dict"), none, (.dict #[(de P "__module__" 268 (.str (.ofString "outlinemill.errors") 214)), (de P "__firstlineno__" 272 (.int 17 271)), (de P "__static_attributes__" 273 (.ref 75)), (de P "__doc__" 274 .none)] 2), #[]⟩
noncomputable def a77 (P : Params) : Obj := ⟨(.type "type"), none, (.cls ⟨(.ofString "MatrixFault"), [(.ref 52)], [(.ref 77), (.ref 52), (.type "Exception"), (.type "BaseException"), (.type "object")], 76, (.ofString "MatrixFault"), true, [], [], false, none, false⟩), #[(some (.ref 68)), none, (some (.str (.ofString "MatrixFault") 261)), (some (.str (.ofString "MatrixFault") 269)), (some (.builtin "Exception.__new__")), (some (.bool true))]⟩
noncomputable def a78 (P : Params) : Obj := ⟨(.type "super"), none, (.fields #[(.ref 77), (.ref 77), (.ref 77)]), #[]⟩
noncomputable def a79 (P : Params) : Obj := ⟨(.type "builtin_function_or_method"), none, (.fields #[(.builtin "object.__init_subclass__"), (.ref 77)]), #[]⟩
noncomputable def a80 (P : Params) : Obj := ⟨(.type "tuple"), none, (.seq #[(.ref 52)] 0), #[]⟩
noncomputable def a81 (P : Params) : Obj := ⟨(.type "builtin_function_or_method"), none, (.fields #[(.builtin "type.__prepare__"), (.type "type")]), #[]⟩
noncomputable def a82 (P : Params) : Obj := ⟨(.type "dict"), none, (.dict #[(de P "__module__" 284 (.str (.ofString "outlinemill.errors") 214)), (de P "__qualname__" 286 (.str (.ofString "SheetFault") 285)), (de P "__firstlineno__" 288 (.int 19 287)), (de P "__static_attributes__" 289 (.ref 87))] 4), #[]⟩
noncomputable def a83 (P : Params) : Obj := ⟨(.type "tuple"), none, (.seq #[] 0), #[]⟩
noncomputable def a84 (P : Params) : Obj := ⟨.none, none, (.fields #[]), #[]⟩
noncomputable def a85 (P : Params) : Obj := ⟨(.type "code"), none, (.fields #[(.str (.ofString "SheetFault") 279), (.str (.ofString "SheetFault") 280), (.str (.ofString "/claim/cut.py") 281), (.int 19 0), (.int 0 0), (.int 0 0), (.int 0 0), (.int 0 0), (.ref 83), (.bool false), (.int 181 0), (.ref 84), .none, .none, .none, .none, (.int 282 0), (.int 19 0), (.str (.ofString "/claim/cut.py") 283)]), #[]⟩
noncomputable def a86 (P : Params) : Obj := ⟨(.type "frame"), none, .plain, #[(some (.ref 85)), (some (.ref 3)), (some (.ref 82)), none, (some (.str (.ofString "outlinemill.errors") 214)), none, (some (.ref 0))]⟩
noncomputable def a87 (P : Params) : Obj := ⟨(.type "tuple"), none, (.seq #[] 0), #[]⟩
noncomputable def a88 (P : Params) : Obj := ⟨(.type "dict"), none, (.dict #[(de P "__module__" 284 (.str (.ofString "outlinemill.errors") 214)), (de P "__firstlineno__" 288 (.int 19 287)), (de P "__static_attributes__" 289 (.ref 87)), (de P "__doc__" 290 .none)] 2), #[]⟩
noncomputable def a89 (P : Params) : Obj := ⟨(.type "type"), none, (.cls ⟨(.ofString "SheetFault"), [(.ref 52)], [(.ref 89), (.ref 52), (.type "Exception"), (.type "BaseException"), (.type "object")], 88, (.ofString "SheetFault"), true, [], [], false, none, false⟩), #[(some (.ref 80)), none, (some (.str (.ofString "SheetFault") 277)), (some (.str (.ofString "SheetFault") 285)), (some (.builtin "Exception.__new__")), (some (.bool true))]⟩
noncomputable def a90 (P : Params) : Obj := ⟨(.type "super"), none, (.fields #[(.ref 89), (.ref 89), (.ref 89)]), #[]⟩
noncomputable def a91 (P : Params) : Obj := ⟨(.type "builtin_function_or_method"), none, (.fields #[(.builtin "object.__init_subclass__"), (.ref 89)]), #[]⟩
noncomputable def a92 (P : Params) : Obj := ⟨(.type "tuple"), none, (.seq #[(.int 0 295), (.int 1 296)] 0), #[]⟩
noncomputable def a93 (P : Params) : Obj := ⟨(.type "tuple"), none, (.seq #[(.int 1 298), (.int 1 299)] 0), #[]⟩
noncomputable def a94 (P : Params) : Obj := ⟨(.type "tuple"), none, (.seq #[] 0), #[]⟩
noncomputable def a95 (P : Params) : Obj := ⟨.none, none, (.fields #[]), #[]⟩
noncomputable def a96 (P : Params) : Obj := ⟨(.type "tuple"), none, (.seq #[(.str (.ofString "one") 304), (.str (.ofString "other") 305), (.str (.ofString "first") 306), (.str (.ofString "second") 307)] 0), #[]⟩
noncomputable def a97 (P : Params) : Obj := ⟨(.type "tuple"), none, (.seq #[] 0), #[]⟩
noncomputable def a98 (P : Params) : Obj := ⟨.none, none, (.func ⟨(.ofString "common_divisor"), (.ofString "common_divisor"), pr4, .stmts bd4, sc4, 0, [], .none, .none, .none, .none, none, .none, .none, 0⟩), #[]⟩
noncomputable def a99 (P : Params) : Obj := ⟨(.type "code"), none, (.fields #[(.str (.ofString "common_divisor") 301), (.str (.ofString "common_divisor") 302), (.str (.ofString "/claim/cut.py") 303), (.int 24 0), (.int 2 0), (.int 0 0), (.int 0 0), (.int 3 0), (.ref 94), (.bool true), (.int 181 0), (.ref 95), .none, (.ref 96), (.ref 97), (.ref 98), (.int 308 0), (.int 24 0), (.str (.ofString "/claim/cut.py") 309)]), #[]⟩
noncomputable def a100 (P : Params) : Obj := ⟨(.type "function"), none, (.func ⟨(.ofString "common_divisor"), (.ofString "common_divisor"), pr4, .stmts bd4, sc4, 3, [], .none, .none, .none, (.str (.ofString "outlinemill.exact") 293), none, (.ref 99), .none, 0⟩), #[]⟩
noncomputable def a101 (P : Params) : Obj := ⟨(.type "tuple"), none, (.seq #[(.int 1 311)] 0), #[]⟩
noncomputable def a102 (P : Params) : Obj := ⟨(.type "tuple"), none, (.seq #[] 0), #[]⟩
noncomputable def a103 (P : Params) : Obj := ⟨.none, none, (.fields #[]), #[]⟩
noncomputable def a104 (P : Params) : Obj := ⟨(.type "tuple"), none, (.seq #[(.str (.ofString "top") 315), (.str (.ofString "bottom") 316), (.str (.ofString "common") 317)] 0), #[]⟩
noncomputable def a105 (P : Params) : Obj := ⟨(.type "tuple"), none, (.seq #[] 0), #[]⟩
noncomputable def a106 (P : Params) : Obj := ⟨.none, none, (.func ⟨(.ofString "fraction"), (.ofString "fraction"), pr5, .stmts bd5, sc5, 0, [], .none, .none, .none, .none, none, .none, .none, 0⟩), #[]⟩
noncomputable def a107 (P : Params) : Obj := ⟨(.type "code"), none, (.fields #[(.str (.ofString "fraction") 312), (.str (.ofString "fraction") 313), (.str (.ofString "/claim/cut.py") 314), (.int 29 0), (.int 2 0), (.int 0 0), (.int 0 0), (.int 3 0), (.ref 102), (.bool true), (.int 181 0), (.ref 103), .none, (.ref 104), (.ref 105), (.ref 106), (.int 318 0), (.int 29 0), (.str (.ofString "/claim/cut.py") 319)]), #[]⟩
noncomputable def a108 (P : Params) : Obj := ⟨(.type "function"), none, (.func ⟨(.ofString "fraction"), (.ofString "fraction"), pr5, .stmts bd5, sc5, 3, [], (.ref 101), .none, .none, (.str (.ofString "outlinemill.exact") 293), none, (.ref 107), .none, 0⟩), #[]⟩
noncomputable def a109 (P : Params) : Obj := ⟨(.type "tuple"), none, (.seq #[] 0), #[]⟩
noncomputable def a110 (P : Params) : Obj := ⟨.none, none, (.fields #[]), #[]⟩
noncomputable def a111 (P : Params) : Obj := ⟨(.type "tuple"), none, (.seq #[(.str (.ofString "a") 324), (.str (.ofString "b") 325)] 0), #[]⟩
noncomputable def a112 (P : Params) : Obj := ⟨(.type "tuple"), none, (.seq #[] 0), #[]⟩
noncomputable def a113 (P : Params) : Obj := ⟨.none, none, (.func ⟨(.ofString "plus"), (.ofString "plus"), pr6, .stmts bd6, sc6, 0, [], .none, .none, .none, .none, none, .none, .none, 0⟩), #[]⟩
noncomputable def a114 (P : Params) : Obj := ⟨(.type "code"), none, (.fields #[(.str (.ofString "plus") 321), (.str (.ofString "plus") 322), (.str (.ofString "/claim/cut.py") 323), (.int 36 0), (.int 2 0), (.int 0 0), (.int 0 0), (.int 3 0), (.ref 109), (.bool true), (.int 181 0), (.ref 110), .none, (.ref 111), (.ref 112), (.ref 113), (.int 326 0), (.int 36 0), (.str (.ofString "/claim/cut.py") 327)]), #[]⟩
noncomputable def a115 (P : Params) : Obj := ⟨(.type "function"), none, (.func ⟨(.ofString "plus"), (.ofString "plus"), pr6, .stmts bd6, sc6, 3, [], .none, .none, .none, (.str (.ofString "outlinemill.exact") 293), none, (.ref 114), .none, 0⟩), #[]⟩
noncomputable def a116 (P : Params) : Obj := ⟨(.type "tuple"), none, (.seq #[] 0), #[]⟩
noncomputable def a117 (P : Params) : Obj := ⟨.none, none, (.fields #[]), #[]⟩
noncomputable def a118 (P : Params) : Obj := ⟨(.type "tuple"), none, (.seq #[(.str (.ofString "a") 332), (.str (.ofString "b") 333)] 0), #[]⟩
noncomputable def a119 (P : Params) : Obj := ⟨(.type "tuple"), none, (.seq #[] 0), #[]⟩
noncomputable def a120 (P : Params) : Obj := ⟨.none, none, (.func ⟨(.ofString "minus"), (.ofString "minus"), pr7, .stmts bd7, sc7, 0, [], .none, .none, .none, .none, none, .none, .none, 0⟩), #[]⟩
noncomputable def a121 (P : Params) : Obj := ⟨(.type "code"), none, (.fields #[(.str (.ofString "minus") 329), (.str (.ofString "minus") 330), (.str (.ofString "/claim/cut.py") 331), (.int 38 0), (.int 2 0), (.int 0 0), (.int 0 0), (.int 3 0), (.ref 116), (.bool true), (.int 181 0), (.ref 117), .none, (.ref 118), (.ref 119), (.ref 120), (.int 334 0), (.int 38 0), (.str (.ofString "/claim/cut.py") 335)]), #[]⟩
noncomputable def a122 (P : Params) : Obj := ⟨(.type "function"), none, (.func ⟨(.ofString "minus"), (.ofString "minus"), pr7, .stmts bd7, sc7, 3, [], .none, .none, .none, (.str (.ofString "outlinemill.exact") 293), none, (.ref 121), .none, 0⟩), #[]⟩
noncomputable def a123 (P : Params) : Obj := ⟨(.type "tuple"), none, (.seq #[] 0), #[]⟩
noncomputable def a124 (P : Params) : Obj := ⟨.none, none, (.fields #[]), #[]⟩
noncomputable def a125 (P : Params) : Obj := ⟨(.type "tuple"), none, (.seq #[(.str (.ofString "a") 340), (.str (.ofString "b") 341)] 0), #[]⟩
noncomputable def a126 (P : Params) : Obj := ⟨(.type "tuple"), none, (.seq #[] 0), #[]⟩
noncomputable def a127 (P : Params) : Obj := ⟨.none, none, (.func ⟨(.ofString "times"), (.ofString "times"), pr8, .stmts bd8, sc8, 0, [], .none, .none, .none, .none, none, .none, .none, 0⟩), #[]⟩
noncomputable def a128 (P : Params) : Obj := ⟨(.type "code"), none, (.fields #[(.str (.ofString "times") 337), (.str (.ofString "times") 338), (.str (.ofString "/claim/cut.py") 339), (.int 40 0), (.int 2 0), (.int 0 0), (.int 0 0), (.int 3 0), (.ref 123), (.bool true), (.int 181 0), (.ref 124), .none, (.ref 125), (.ref 126), (.ref 127), (.int 342 0), (.int 40 0), (.str (.ofString "/claim/cut.py") 343)]), #[]⟩
noncomputable def a129 (P : Params) : Obj := ⟨(.type "function"), none, (.func ⟨(.ofString "times"), (.ofString "times"), pr8, .stmts bd8, sc8, 3, [], .none, .none, .none, (.str (.ofString "outlinemill.exact") 293), none, (.ref 128), .none, 0⟩), #[]⟩
noncomputable def a130 (P : Params) : Obj := ⟨(.type "tuple"), none, (.seq #[] 0), #[]⟩
noncomputable def a131 (P : Params) : Obj := ⟨.none, none, (.fields #[]), #[]⟩
noncomputable def a132 (P : Params) : Obj := ⟨(.type "tuple"), none, (.seq #[(.str (.ofString "a") 348), (.str (.ofString "b") 349)] 0), #[]⟩
noncomputable def a133 (P : Params) : Obj := ⟨(.type "tuple"), none, (.seq #[] 0), #[]⟩
noncomputable def a134 (P : Params) : Obj := ⟨.none, none, (.func ⟨(.ofString "divided"), (.ofString "divided"), pr9, .stmts bd9, sc9, 0, [], .none, .none, .none, .none, none, .none, .none, 0⟩), #[]⟩
noncomputable def a135 (P : Params) : Obj := ⟨(.type "code"), none, (.fields #[(.str (.ofString "divided") 345), (.str (.ofString "divided") 346), (.str (.ofString "/claim/cut.py") 347), (.int 42 0), (.int 2 0), (.int 0 0), (.int 0 0), (.int 3 0), (.ref 130), (.bool true), (.int 181 0), (.ref 131), .none, (.ref 132), (.ref 133), (.ref 134), (.int 350 0), (.int 42 0), (.str (.ofString "/claim/cut.py") 351)]), #[]⟩
noncomputable def a136 (P : Params) : Obj := ⟨(.type "function"), none, (.func ⟨(.ofString "divided"), (.ofString "divided"), pr9, .stmts bd9, sc9, 3, [], .none, .none, .none, (.str (.ofString "outlinemill.exact") 293), none, (.ref 135), .none, 0⟩), #[]⟩
noncomputable def a137 (P : Params) : Obj := ⟨(.type "tuple"), none, (.seq #[] 0), #[]⟩
noncomputable def a138 (P : Params) : Obj := ⟨.none, none, (.fields #[]), #[]⟩
noncomputable def a139 (P : Params) : Obj := ⟨(.type "tuple"), none, (.seq #[(.str (.ofString "a") 356)] 0), #[]⟩
noncomputable def a140 (P : Params) : Obj := ⟨(.type "tuple"), none, (.seq #[] 0), #[]⟩
noncomputable def a141 (P : Params) : Obj := ⟨.none, none, (.func ⟨(.ofString "negated"), (.ofString "negated"), pr10, .stmts bd10, sc10, 0, [], .none, .none, .none, .none, none, .none, .none, 0⟩), #[]⟩
noncomputable def a142 (P : Params) : Obj := ⟨(.type "code"), none, (.fields #[(.str (.ofString "negated") 353), (.str (.ofString "negated") 354), (.str (.ofString "/claim/cut.py") 355), (.int 46 0), (.int 1 0), (.int 0 0), (.int 0 0), (.int 3 0), (.ref 137), (.bool true), (.int 181 0), (.ref 138), .none, (.ref 139), (.ref 140), (.ref 141), (.int 357 0), (.int 46 0), (.str (.ofString "/claim/cut.py") 358)]), #[]⟩
noncomputable def a143 (P : Params) : Obj := ⟨(.type "function"), none, (.func ⟨(.ofString "negated"), (.ofString "negated"), pr10, .stmts bd10, sc10, 3, [], .none, .none, .none, (.str (.ofString "outlinemill.exact") 293), none, (.ref 142), .none, 0⟩), #[]⟩
noncomputable def a144 (P : Params) : Obj := ⟨(.type "tuple"), none, (.seq #[] 0), #[]⟩
noncomputable def a145 (P : Params) : Obj := ⟨.none, none, (.fields #[]), #[]⟩
noncomputable def a146 (P : Params) : Obj := ⟨(.type "tuple"), none, (.seq #[(.str (.ofString "a") 363)] 0), #[]⟩
noncomputable def a147 (P : Params) : Obj := ⟨(.type "tuple"), none, (.seq #[] 0), #[]⟩
noncomputable def a148 (P : Params) : Obj := ⟨.none, none, (.func ⟨(.ofString "sign_of"), (.ofString "sign_of"), pr11, .stmts bd11, sc11, 0, [], .none, .none, .none, .none, none, .none, .none, 0⟩), #[]⟩
noncomputable def a149 (P : Params) : Obj := ⟨(.type "code"), none, (.fields #[(.str (.ofString "sign_of") 360), (.str (.ofString "sign_of") 361), (.str (.ofString "/claim/cut.py") 362), (.int 48 0), (.int 1 0), (.int 0 0), (.int 0 0), (.int 3 0), (.ref 144), (.bool true), (.int 181 0), (.ref 145), .none, (.ref 146), (.ref 147), (.ref 148), (.int 364 0), (.int 48 0), (.str (.ofString "/claim/cut.py") 365)]), #[]⟩
noncomputable def a150 (P : Params) : Obj := ⟨(.type "function"), none, (.func ⟨(.ofString "sign_of"), (.ofString "sign_of"), pr11, .stmts bd11, sc11, 3, [], .none, .none, .none, (.str (.ofString "outlinemill.exact") 293), none, (.ref 149), .none, 0⟩), #[]⟩
noncomputable def a151 (P : Params) : Obj := ⟨(.type "tuple"), none, (.seq #[] 0), #[]⟩
noncomputable def a152 (P : Params) : Obj := ⟨.none, none, (.fields #[]), #[]⟩
noncomputable def a153 (P : Params) : Obj := ⟨(.type "tuple"), none, (.seq #[(.str (.ofString "a") 370), (.str (.ofString "b") 371)] 0), #[]⟩
noncomputable def a154 (P : Params) : Obj := ⟨(.type "tuple"), none, (.seq #[] 0), #[]⟩
noncomputable def a155 (P : Params) : Obj := ⟨.none, none, (.func ⟨(.ofString "compare"), (.ofString "compare"), pr12, .stmts bd12, sc12, 0, [], .none, .none, .none, .none, none, .none, .none, 0⟩), #[]⟩
noncomputable def a156 (P : Params) : Obj := ⟨(.type "code"), none, (.fields #[(.str (.ofString "compare") 367), (.str (.ofString "compare") 368), (.str (.ofString "/claim/cut.py") 369), (.int 54 0), (.int 2 0), (.int 0 0), (.int 0 0), (.int 3 0), (.ref 151), (.bool true), (.int 181 0), (.ref 152), .none, (.ref 153), (.ref 154), (.ref 155), (.int 372 0), (.int 54 0), (.str (.ofString "/claim/cut.py") 373)]), #[]⟩
noncomputable def a157 (P : Params) : Obj := ⟨(.type "function"), none, (.func ⟨(.ofString "compare"), (.ofString "compare"), pr12, .stmts bd12, sc12, 3, [], .none, .none, .none, (.str (.ofString "outlinemill.exact") 293), none, (.ref 156), .none, 0⟩), #[]⟩
noncomputable def a158 (P : Params) : Obj := ⟨(.type "tuple"), none, (.seq #[] 0), #[]⟩
noncomputable def a159 (P : Params) : Obj := ⟨.none, none, (.fields #[]), #[]⟩
noncomputable def a160 (P : Params) : Obj := ⟨(.type "tuple"), none, (.seq #[(.str (.ofString "a") 378)] 0), #[]⟩
noncomputable def a161 (P : Params) : Obj := ⟨(.type "tuple"), none, (.seq #[] 0), #[]⟩
noncomputable def a162 (P : Params) : Obj := ⟨.none, none, (.func ⟨(.ofString "floor_of"), (.ofString "floor_of"), pr13, .stmts bd13, sc13, 0, [], .none, .none, .none, .none, none, .none, .none, 0⟩), #[]⟩
noncomputable def a163 (P : Params) : Obj := ⟨(.type "code"), none, (.fields #[(.str (.ofString "floor_of") 375), (.str (.ofString "floor_of") 376), (.str (.ofString "/claim/cut.py") 377), (.int 56 0), (.int 1 0), (.int 0 0), (.int 0 0), (.int 3 0), (.ref 158), (.bool true), (.int 181 0), (.ref 159), .none, (.ref 160), (.ref 161), (.ref 162), (.int 379 0), (.int 56 0), (.str (.ofString "/claim/cut.py") 380)]), #[]⟩
noncomputable def a164 (P : Params) : Obj := ⟨(.type "function"), none, (.func ⟨(.ofString "floor_of"), (.ofString "floor_of"), pr13, .stmts bd13, sc13, 3, [], .none, .none, .none, (.str (.ofString "outlinemill.exact") 293), none, (.ref 163), .none, 0⟩), #[]⟩
noncomputable def a165 (P : Params) : Obj := ⟨(.type "tuple"), none, (.seq #[] 0), #[]⟩
noncomputable def a166 (P : Params) : Obj := ⟨.none, none, (.fields #[]), #[]⟩
noncomputable def a167 (P : Params) : Obj := ⟨(.type "tuple"), none, (.seq #[(.str (.ofString "a") 385)] 0), #[]⟩
noncomputable def a168 (P : Params) : Obj := ⟨(.type "tuple"), none, (.seq #[] 0), #[]⟩
noncomputable def a169 (P : Params) : Obj := ⟨.none, none, (.func ⟨(.ofString "rounded"), (.ofString "rounded"), pr14, .stmts bd14, sc14, 0, [], .none, .none, .none, .none, none, .none, .none, 0⟩), #[]⟩
noncomputable def a170 (P : Params) : Obj := ⟨(.type "code"), none, (.fields #[(.str (.ofString "rounded") 382), (.str (.ofString "rounded") 383), (.str (.ofString "/claim/cut.py") 384), (.int 58 0), (.int 1 0), (.int 0 0), (.int 0 0), (.int 3 0), (.ref 165), (.bool true), (.int 181 0), (.ref 166), .none, (.ref 167), (.ref 168), (.ref 169), (.int 386 0), (.int 58 0), (.str (.ofString "/claim/cut.py") 387)]), #[]⟩
noncomputable def a171 (P : Params) : Obj := ⟨(.type "function"), none, (.func ⟨(.ofString "rounded"), (.ofString "rounded"), pr14, .stmts bd14, sc14, 3, [], .none, .none, .none, (.str (.ofString "outlinemill.exact") 293), none, (.ref 170), .none, 0⟩), #[]⟩
noncomputable def a172 (P : Params) : Obj := ⟨(.type "tuple"), none, (.seq #[] 0), #[]⟩
noncomputable def a173 (P : Params) : Obj := ⟨.none, none, (.fields #[]), #[]⟩
noncomputable def a174 (P : Params) : Obj := ⟨(.type "tuple"), none, (.seq #[(.str (.ofString "n") 392), (.str (.ofString "found") 393), (.str (.ofString "lower") 394)] 0), #[]⟩
noncomputable def a175 (P : Params) : Obj := ⟨(.type "tuple"), none, (.seq #[] 0), #[]⟩
noncomputable def a176 (P : Params) : Obj := ⟨.none, none, (.func ⟨(.ofString "root_floor"), (.ofString "root_floor"), pr15, .stmts bd15, sc15, 0, [], .none, .none, .none, .none, none, .none, .none, 0⟩), #[]⟩
noncomputable def a177 (P : Params) : Obj := ⟨(.type "code"), none, (.fields #[(.str (.ofString "root_floor") 389), (.str (.ofString "root_floor") 390), (.str (.ofString "/claim/cut.py") 391), (.int 60 0), (.int 1 0), (.int 0 0), (.int 0 0), (.int 3 0), (.ref 172), (.bool true), (.int 181 0), (.ref 173), .none, (.ref 174), (.ref 175), (.ref 176), (.int 395 0), (.int 60 0), (.str (.ofString "/claim/cut.py") 396)]), #[]⟩
noncomputable def a178 (P : Params) : Obj := ⟨(.type "function"), none, (.func ⟨(.ofString "root_floor"), (.ofString "root_floor"), pr15, .stmts bd15, sc15, 3, [], .none, .none, .none, (.str (.ofString "outlinemill.exact") 293), none, (.ref 177), .none, 0⟩), #[]⟩
noncomputable def a179 (P : Params) : Obj := ⟨(.type "tuple"), none, (.seq #[] 0), #[]⟩
noncomputable def a180 (P : Params) : Obj := ⟨.none, none, (.fields #[]), #[]⟩
noncomputable def a181 (P : Params) : Obj := ⟨(.type "tuple"), none, (.seq #[(.str (.ofString "x") 403), (.str (.ofString "y") 404)] 0), #[]⟩
noncomputable def a182 (P : Params) : Obj := ⟨(.type "tuple"), none, (.seq #[] 0), #[]⟩
noncomputable def a183 (P : Params) : Obj := ⟨.none, none, (.func ⟨(.ofString "middle_of"), (.ofString "middle_of"), pr16, .stmts bd16, sc16, 0, [], .none, .none, .none, .none, none, .none, .none, 0⟩), #[]⟩
noncomputable def a184 (P : Params) : Obj := ⟨(.type "code"), none, (.fields #[(.str (.ofString "middle_of") 400), (.str (.ofString "middle_of") 401), (.str (.ofString "/claim/cut.py") 402), (.int 74 0), (.int 2 0), (.int 0 0), (.int 0 0), (.int 3 0), (.ref 179), (.bool true), (.int 181 0), (.ref 180), .none, (.ref 181), (.ref 182), (.ref 183), (.int 405 0), (.int 74 0), (.str (.ofString "/claim/cut.py") 406)]), #[]⟩
noncomputable def a185 (P : Params) : Obj := ⟨(.type "function"), none, (.func ⟨(.ofString "middle_of"), (.ofString "middle_of"), pr16, .stmts bd16, sc16, 3, [], .none, .none, .none, (.str (.ofString "outlinemill.paints") 398), none, (.ref 184), .none, 0⟩), #[]⟩
noncomputable def a186 (P : Params) : Obj := ⟨(.type "tuple"), none, (.seq #[(.str (.ofString "pad") 410), (.str (.ofString "repeat") 411), (.str (.ofString "reflect") 412)] 0), #[]⟩
noncomputable def a187 (P : Params) : Obj := ⟨(.type "tuple"), none, (.seq #[] 0), #[]⟩
noncomputable def a188 (P : Params) : Obj := ⟨.none, none, (.fields #[]), #[]⟩
noncomputable def a189 (P : Params) : Obj := ⟨(.type "tuple"), none, (.seq #[(.str (.ofString "kind") 417)] 0), #[]⟩
noncomputable def a190 (P : Params) : Obj := ⟨(.type "tuple"), none, (.seq #[] 0), #[]⟩
noncomputable def a191 (P : Params) : Obj := ⟨.none, none, (.func ⟨(.ofString "check_kind"), (.ofString "check_kind"), pr17, .stmts bd17, sc17, 0, [], .none, .none, .none, .none, none, .none, .none, 0⟩), #[]⟩
noncomputable def a192 (P : Params) : Obj := ⟨(.type "code"), none, (.fields #[(.str (.ofString "check_kind") 414), (.str (.ofString "check_kind") 415), (.str (.ofString "/claim/cut.py") 416), (.int 78 0), (.int 1 0), (.int 0 0), (.int 0 0), (.int 3 0), (.ref 187), (.bool true), (.int 181 0), (.ref 188), .none, (.ref 189), (.ref 190), (.ref 191), (.int 418 0), (.int 78 0), (.str (.ofString "/claim/cut.py") 419)]), #[]⟩
noncomputable def a193 (P : Params) : Obj := ⟨(.type "function"), none, (.func ⟨(.ofString "check_kind"), (.ofString "check_kind"), pr17, .stmts bd17, sc17, 3, [], .none, .none, .none, (.str (.ofString "outlinemill.spreads") 408), none, (.ref 192), .none, 0⟩), #[]⟩
noncomputable def a194 (P : Params) : Obj := ⟨(.type "tuple"), none, (.seq #[] 0), #[]⟩
noncomputable def a195 (P : Params) : Obj := ⟨.none, none, (.fields #[]), #[]⟩
noncomputable def a196 (P : Params) : Obj := ⟨(.type "tuple"), none, (.seq #[(.str (.ofString "t") 424)] 0), #[]⟩
noncomputable def a197 (P : Params) : Obj := ⟨(.type "tuple"), none, (.seq #[] 0), #[]⟩
noncomputable def a198 (P : Params) : Obj := ⟨.none, none, (.func ⟨(.ofString "part_of"), (.ofString "part_of"), pr18, .stmts bd18, sc18, 0, [], .none, .none, .none, .none, none, .none, .none, 0⟩), #[]⟩
noncomputable def a199 (P : Params) : Obj := ⟨(.type "code"), none, (.fields #[(.str (.ofString "part_of") 421), (.str (.ofString "part_of") 422), (.str (.ofString "/claim/cut.py") 423), (.int 81 0), (.int 1 0), (.int 0 0), (.int 0 0), (.int 3 0), (.ref 194), (.bool true), (.int 181 0), (.ref 195), .none, (.ref 196), (.ref 197), (.ref 198), (.int 425 0), (.int 81 0), (.str (.ofString "/claim/cut.py") 426)]), #[]⟩
noncomputable def a200 (P : Params) : Obj := ⟨(.type "function"), none, (.func ⟨(.ofString "part_of"), (.ofString "part_of"), pr18, .stmts bd18, sc18, 3, [], .none, .none, .none, (.str (.ofString "outlinemill.spreads") 408), none, (.ref 199), .none, 0⟩), #[]⟩
noncomputable def a201 (P : Params) : Obj := ⟨(.type "tuple"), none, (.seq #[] 0), #[]⟩
noncomputable def a202 (P : Params) : Obj := ⟨.none, none, (.fields #[]), #[]⟩
noncomputable def a203 (P : Params) : Obj := ⟨(.type "tuple"), none, (.seq #[(.str (.ofString "t") 431), (.str (.ofString "whole") 432), (.str (.ofString "part") 433)] 0), #[]⟩
noncomputable def a204 (P : Params) : Obj := ⟨(.type "tuple"), none, (.seq #[] 0), #[]⟩
noncomputable def a205 (P : Params) : Obj := ⟨.none, none, (.func ⟨(.ofString "reflected"), (.ofString "reflected"), pr19, .stmts bd19, sc19, 0, [], .none, .none, .none, .none, none, .none, .none, 0⟩), #[]⟩
noncomputable def a206 (P : Params) : Obj := ⟨(.type "code"), none, (.fields #[(.str (.ofString "reflected") 428), (.str (.ofString "reflected") 429), (.str (.ofString "/claim/cut.py") 430), (.int 83 0), (.int 1 0), (.int 0 0), (.int 0 0), (.int 3 0), (.ref 201), (.bool true), (.int 181 0), (.ref 202), .none, (.ref 203), (.ref 204), (.ref 205), (.int 434 0), (.int 83 0), (.str (.ofString "/claim/cut.py") 435)]), #[]⟩
noncomputable def a207 (P : Params) : Obj := ⟨(.type "function"), none, (.func ⟨(.ofString "reflected"), (.ofString "reflected"), pr19, .stmts bd19, sc19, 3, [], .none, .none, .none, (.str (.ofString "outlinemill.spreads") 408), none, (.ref 206), .none, 0⟩), #[]⟩
noncomputable def a208 (P : Params) : Obj := ⟨(.type "tuple"), none, (.seq #[] 0), #[]⟩
noncomputable def a209 (P : Params) : Obj := ⟨.none, none, (.fields #[]), #[]⟩
noncomputable def a210 (P : Params) : Obj := ⟨(.type "tuple"), none, (.seq #[(.str (.ofString "t") 440)] 0), #[]⟩
noncomputable def a211 (P : Params) : Obj := ⟨(.type "tuple"), none, (.seq #[] 0), #[]⟩
noncomputable def a212 (P : Params) : Obj := ⟨.none, none, (.func ⟨(.ofString "padded"), (.ofString "padded"), pr20, .stmts bd20, sc20, 0, [], .none, .none, .none, .none, none, .none, .none, 0⟩), #[]⟩
noncomputable def a213 (P : Params) : Obj := ⟨(.type "code"), none, (.fields #[(.str (.ofString "padded") 437), (.str (.ofString "padded") 438), (.str (.ofString "/claim/cut.py") 439), (.int 86 0), (.int 1 0), (.int 0 0), (.int 0 0), (.int 3 0), (.ref 208), (.bool true), (.int 181 0), (.ref 209), .none, (.ref 210), (.ref 211), (.ref 212), (.int 441 0), (.int 86 0), (.str (.ofString "/claim/cut.py") 442)]), #[]⟩
noncomputable def a214 (P : Params) : Obj := ⟨(.type "function"), none, (.func ⟨(.ofString "padded"), (.ofString "padded"), pr20, .stmts bd20, sc20, 3, [], .none, .none, .none, (.str (.ofString "outlinemill.spreads") 408), none, (.ref 213), .none, 0⟩), #[]⟩
noncomputable def a215 (P : Params) : Obj := ⟨(.type "tuple"), none, (.seq #[] 0), #[]⟩
noncomputable def a216 (P : Params) : Obj := ⟨.none, none, (.fields #[]), #[]⟩
noncomputable def a217 (P : Params) : Obj := ⟨(.type "tuple"), none, (.seq #[(.str (.ofString "t") 447), (.str (.ofString "kind") 448)] 0), #[]⟩
noncomputable def a218 (P : Params) : Obj := ⟨(.type "tuple"), none, (.seq #[] 0), #[]⟩
noncomputable def a219 (P : Params) : Obj := ⟨.none, none, (.func ⟨(.ofString "spread"), (.ofString "spread"), pr21, .stmts bd21, sc21, 0, [], .none, .none, .none, .none, none, .none, .none, 0⟩), #[]⟩
noncomputable def a220 (P : Params) : Obj := ⟨(.type "code"), none, (.fields #[(.str (.ofString "spread") 444), (.str (.ofString "spread") 445), (.str (.ofString "/claim/cut.py") 446), (.int 90 0), (.int 2 0), (.int 0 0), (.int 0 0), (.int 3 0), (.ref 215), (.bool true), (.int 181 0), (.ref 216), .none, (.ref 217), (.ref 218), (.ref 219), (.int 449 0), (.int 90 0), (.str (.ofString "/claim/cut.py") 450)]), #[]⟩
noncomputable def a221 (P : Params) : Obj := ⟨(.type "function"), none, (.func ⟨(.ofString "spread"), (.ofString "spread"), pr21, .stmts bd21, sc21, 3, [], .none, .none, .none, (.str (.ofString "outlinemill.spreads") 408), none, (.ref 220), .none, 0⟩), #[]⟩
noncomputable def a222 (P : Params) : Obj := ⟨(.type "tuple"), none, (.seq #[(.int 0 454), (.int 0 455), (.int 0 456), (.int 0 457)] 0), #[]⟩
noncomputable def a223 (P : Params) : Obj := ⟨(.type "tuple"), none, (.seq #[] 0), #[]⟩
noncomputable def a224 (P : Params) : Obj := ⟨(.type "builtin_function_or_method"), none, (.fields #[(.builtin "type.__prepare__"), (.type "type")]), #[]⟩
noncomputable def a225 (P : Params) : Obj := ⟨(.type "dict"), none, (.dict #[(de P "__module__" 466 (.str (.ofString "outlinemill.gradients") 452)), (de P "__qualname__" 468 (.str (.ofString "Stop") 467)), (de P "__firstlineno__" 470 (.int 97 469)), (de P "__init__" 480 (.ref 236)), (de P "parts" 487 (.ref 243)), (de P "__static_attributes__" 491 (.ref 244))] 6), #[]⟩
noncomputable def a226 (P : Params) : Obj := ⟨(.type "tuple"), none, (.seq #[] 0), #[]⟩
noncomputable def a227 (P : Params) : Obj := ⟨.none, none, (.fields #[(.int 99 0), (.int 4 0), (.ref 235), (.int 104 0), (.int 4 0), (.ref 242)]), #[]⟩
noncomputable def a228 (P : Params) : Obj := ⟨(.type "code"), none, (.fields #[(.str (.ofString "Stop") 461), (.str (.ofString "Stop") 462), (.str (.ofString "/claim/cut.py") 463), (.int 97 0), (.int 0 0), (.int 0 0), (.int 0 0), (.int 0 0), (.ref 226), (.bool false), (.int 181 0), (.ref 227), .none, .none, .none, .none, (.int 464 0), (.int 97 0), (.str (.ofString "/claim/cut.py") 465)]), #[]⟩
noncomputable def a229 (P : Params) : Obj := ⟨(.type "frame"), none, .plain, #[(some (.ref 228)), (some (.ref 3)), (some (.ref 225)), none, (some (.str (.ofString "outlinemill.gradients") 452)), none, (some (.ref 0))]⟩
noncomputable def a230 (P : Params) : Obj := ⟨(.type "tuple"), none, (.seq #[] 0), #[]⟩
noncomputable def a231 (P : Params) : Obj := ⟨.none, none, (.fields #[]), #[]⟩
noncomputable def a232 (P : Params) : Obj := ⟨(.type "tuple"), none, (.seq #[(.str (.ofString "self") 474), (.str (.ofString "offset") 475), (.str (.ofString "shade") 476), (.str (.ofString "alpha") 477)] 0), #[]⟩
noncomputable def a233 (P : Params) : Obj := ⟨(.type "tuple"), none, (.seq #[] 0), #[]⟩
noncomputable def a234 (P : Params) : Obj := ⟨.none, none, (.func ⟨(.ofString "__init__"), (.ofString "Stop.__init__"), pr22, .stmts bd22, sc22, 0, [], .none, .none, .none, .none, none, .none, .none, 0⟩), #[]⟩
noncomputable def a235 (P : Params) : Obj := ⟨(.type "code"), none, (.fields #[(.str (.ofString "__init__") 471), (.str (.ofString "Stop.__init__") 472), (.str (.ofString "/claim/cut.py") 473), (.int 99 0), (.int 4 0), (.int 0 0), (.int 0 0), (.int 3 0), (.ref 230), (.bool true), (.int 181 0), (.ref 231), .none, (.ref 232), (.ref 233), (.ref 234), (.int 478 0), (.int 99 0), (.str (.ofString "/claim/cut.py") 479)]), #[]⟩
noncomputable def a236 (P : Params) : Obj := ⟨(.type "function"), none, (.func ⟨(.ofString "__init__"), (.ofString "Stop.__init__"), pr22, .stmts bd22, sc22, 3, [], .none, .none, .none, (.str (.ofString "outlinemill.gradients") 452), none, (.ref 235), .none, 0⟩), #[]⟩
noncomputable def a237 (P : Params) : Obj := ⟨(.type "tuple"), none, (.seq #[] 0), #[]⟩
noncomputable def a238 (P : Params) : Obj := ⟨.none, none, (.fields #[]), #[]⟩
noncomputable def a239 (P : Params) : Obj := ⟨(.type "tuple"), none, (.seq #[(.str (.ofString "self") 484)] 0), #[]⟩
noncomputable def a240 (P : Params) : Obj := ⟨(.type "tuple"), none, (.seq #[] 0), #[]⟩
noncomputable def a241 (P : Params) : Obj := ⟨.none, none, (.func ⟨(.ofString "parts"), (.ofString "Stop.parts"), pr23, .stmts bd23, sc23, 0, [], .none, .none, .none, .none, none, .none, .none, 0⟩), #[]⟩
noncomputable def a242 (P : Params) : Obj := ⟨(.type "code"), none, (.fields #[(.str (.ofString "parts") 481), (.str (.ofString "Stop.parts") 482), (.str (.ofString "/claim/cut.py") 483), (.int 104 0), (.int 1 0), (.int 0 0), (.int 0 0), (.int 3 0), (.ref 237), (.bool true), (.int 181 0), (.ref 238), .none, (.ref 239), (.ref 240), (.ref 241), (.int 485 0), (.int 104 0), (.str (.ofString "/claim/cut.py") 486)]), #[]⟩
noncomputable def a243 (P : Params) : Obj := ⟨(.type "function"), none, (.func ⟨(.ofString "parts"), (.ofString "Stop.parts"), pr23, .stmts bd23, sc23, 3, [], .none, .none, .none, (.str (.ofString "outlinemill.gradients") 452), none, (.ref 242), .none, 0⟩), #[]⟩
noncomputable def a244 (P : Params) : Obj := ⟨(.type "tuple"), none, (.seq #[(.str (.ofString "alpha") 488), (.str (.ofString "offset") 489), (.str (.ofString "shade") 490)] 0), #[]⟩
noncomputable def a245 (P : Params) : Obj := ⟨(.type "dict"), none, (.dict #[(de P "__module__" 466 (.str (.ofString "outlinemill.gradients") 452)), (de P "__firstlineno__" 470 (.int 97 469)), (de P "__init__" 480 (.ref 236)), (de P "parts" 487 (.ref 243)), (de P "__static_attributes__" 491 (.ref 244)), (de P "__dict__" 493 (.ref 247)), (de P "__weakref__" 495 (.ref 248)), (de P "__doc__" 496 .none)] 4), #[]⟩
noncomputable def a246 (P : Params) : Obj := ⟨(.type "type"), none, (.cls ⟨(.ofString "Stop"), [(.type "object")], [(.ref 246), (.type "object")], 245, (.ofString "Stop"), true, [], [], false, none, false⟩), #[none, none, (some (.str (.ofString "Stop") 459)), (some (.str (.ofString "Stop") 467)), (some (.builtin "object.__new__")), (some (.bool true))]⟩
noncomputable def a247 (P : Params) : Obj := ⟨(.type "getset_descriptor"), none, (.fields #[(.str (.ofString "__dict__") 492), (.ref 246), (.builtin "function.__dict__"), (.builtin "function.__dict__#set")]), #[]⟩
noncomputable def a248 (P : Params) : Obj := ⟨(.type "getset_descriptor"), none, (.fields #[(.str (.ofString "__weakref__") 494), (.ref 246), (.builtin "ExceptionGroup.__weakref__"), .none]), #[]⟩
noncomputable def a249 (P : Params) : Obj := ⟨(.type "super"), none, (.fields #[(.ref 246), (.ref 246), (.ref 246)]), #[]⟩
noncomputable def a250 (P : Params) : Obj := ⟨(.type "builtin_function_or_method"), none, (.fields #[(.builtin "object.__init_subclass__"), (.ref 246)]), #[]⟩
noncomputable def a251 (P : Params) : Obj := ⟨(.type "tuple"), none, (.seq #[] 0), #[]⟩
noncomputable def a252 (P : Params) : Obj := ⟨.none, none, (.fields #[]), #[]⟩
noncomputable def a253 (P : Params) : Obj := ⟨(.type "tuple"), none, (.seq #[(.str (.ofString "one") 502), (.str (.ofString "other") 503), (.str (.ofString "share") 504)] 0), #[]⟩
noncomputable def a254 (P : Params) : Obj := ⟨(.type "tuple"), none, (.seq #[] 0), #[]⟩
noncomputable def a255 (P : Params) : Obj := ⟨.none, none, (.func ⟨(.ofString "between_parts"), (.ofString "between_parts"), pr24, .stmts bd24, sc24, 0, [], .none, .none, .none, .none, none, .none, .none, 0⟩), #[]⟩
noncomputable def a256 (P : Params) : Obj := ⟨(.type "code"), none, (.fields #[(.str (.ofString "between_parts") 499), (.str (.ofString "between_parts") 500), (.str (.ofString "/claim/cut.py") 501), (.int 106 0), (.int 3 0), (.int 0 0), (.int 0 0), (.int 3 0), (.ref 251), (.bool true), (.int 181 0), (.ref 252), .none, (.ref 253), (.ref 254), (.ref 255), (.int 505 0), (.int 106 0), (.str (.ofString "/claim/cut.py") 506)]), #[]⟩
noncomputable def a257 (P : Params) : Obj := ⟨(.type "function"), none, (.func ⟨(.ofString "between_parts"), (.ofString "between_parts"), pr24, .stmts bd24, sc24, 3, [], .none, .none, .none, (.str (.ofString "outlinemill.gradients") 452), none, (.ref 256), .none, 0⟩), #[]⟩
noncomputable def a258 (P : Params) : Obj := ⟨(.type "tuple"), none, (.seq #[] 0), #[]⟩
noncomputable def a259 (P : Params) : Obj := ⟨(.type "builtin_function_or_method"), none, (.fields #[(.builtin "type.__prepare__"), (.type "type")]), #[]⟩
noncomputable def a260 (P : Params) : Obj := ⟨(.type "dict"), none, (.dict #[(de P "__module__" 515 (.str (.ofString "outlinemill.gradients") 452)), (de P "__qualname__" 517 (.str (.ofString "Stops") 516)), (de P "__firstlineno__" 519 (.int 108 518)), (de P "__init__" 532 (.ref 271)), (de P "last_colour" 539 (.ref 278)), (de P "colour" 549 (.ref 285)), (de P "mixed" 555 (.ref 290)), (de P "__static_attributes__" 557 (.ref 291))] 8), #[]⟩
noncomputable def a261 (P : Params) : Obj := ⟨(.type "tuple"), none, (.seq #[] 0), #[]⟩
noncomputable def a262 (P : Params) : Obj := ⟨.none, none, (.fields #[(.int 110 0), (.int 4 0), (.ref 270), (.int 120 0), (.int 4 0), (.ref 277), (.int 125 0), (.int 4 0), (.ref 284), (.int 136 0), (.int 4 0), (.ref 289)]), #[]⟩
noncomputable def a263 (P : Params) : Obj := ⟨(.type "code"), none, (.fields #[(.str (.ofString "Stops") 510), (.str (.ofString "Stops") 511), (.str (.ofString "/claim/cut.py") 512), (.int 108 0), (.int 0 0), (.int 0 0), (.int 0 0), (.int 0 0), (.ref 261), (.bool false), (.int 181 0), (.ref 262), .none, .none, .none, .none, (.int 513 0), (.int 108 0), (.str (.ofString "/claim/cut.py") 514)]), #[]⟩
noncomputable def a264 (P : Params) : Obj := ⟨(.type "frame"), none, .plain, #[(some (.ref 263)), (some (.ref 3)), (some (.ref 260)), none, (some (.str (.ofString "outlinemill.gradients") 452)), none, (some (.ref 0))]⟩
noncomputable def a265 (P : Params) : Obj := ⟨(.type "tuple"), none, (.seq #[] 0), #[]⟩
noncomputable def a266 (P : Params) : Obj := ⟨.none, none, (.fields #[]), #[]⟩
noncomputable def a267 (P : Params) : Obj := ⟨(.type "tuple"), none, (.seq #[(.str (.ofString "self") 523), (.str (.ofString "rows") 524), (.str (.ofString "last") 525), (.str (.ofString "offset") 526), (.str (.ofString "shade") 527), (.str (.ofString "alpha") 528), (.str (.ofString "told") 529)] 0), #[]⟩
noncomputable def a268 (P : Params) : Obj := ⟨(.type "tuple"), none, (.seq #[] 0), #[]⟩
noncomputable def a269 (P : Params) : Obj := ⟨.none, none, (.func ⟨(.ofString "__init__"), (.ofString "Stops.__init__"), pr25, .stmts bd25, sc25, 0, [], .none, .none, .none, .none, none, .none, .none, 0⟩), #[]⟩
noncomputable def a270 (P : Params) : Obj := ⟨(.type "code"), none, (.fields #[(.str (.ofString "__init__") 520), (.str (.ofString "Stops.__init__") 521), (.str (.ofString "/claim/cut.py") 522), (.int 110 0), (.int 2 0), (.int 0 0), (.int 0 0), (.int 3 0), (.ref 265), (.bool true), (.int 181 0), (.ref 266), .none, (.ref 267), (.ref 268), (.ref 269), (.int 530 0), (.int 110 0), (.str (.ofString "/claim/cut.py") 531)]), #[]⟩
noncomputable def a271 (P : Params) : Obj := ⟨(.type "function"), none, (.func ⟨(.ofString "__init__"), (.ofString "Stops.__init__"), pr25, .stmts bd25, sc25, 3, [], .none, .none, .none, (.str (.ofString "outlinemill.gradients") 452), none, (.ref 270), .none, 0⟩), #[]⟩
noncomputable def a272 (P : Params) : Obj := ⟨(.type "tuple"), none, (.seq #[] 0), #[]⟩
noncomputable def a273 (P : Params) : Obj := ⟨.none, none, (.fields #[]), #[]⟩
noncomputable def a274 (P : Params) : Obj := ⟨(.type "tuple"), none, (.seq #[(.str (.ofString "self") 536)] 0), #[]⟩
noncomputable def a275 (P : Params) : Obj := ⟨(.type "tuple"), none, (.seq #[] 0), #[]⟩
noncomputable def a276 (P : Params) : Obj := ⟨.none, none, (.func ⟨(.ofString "last_colour"), (.ofString "Stops.last_colour"), pr26, .stmts bd26, sc26, 0, [], .none, .none, .none, .none, none, .none, .none, 0⟩), #[]⟩
noncomputable def a277 (P : Params) : Obj := ⟨(.type "code"), none, (.fields #[(.str (.ofString "last_colour") 533), (.str (.ofString "Stops.last_colour") 534), (.str (.ofString "/claim/cut.py") 535), (.int 120 0), (.int 1 0), (.int 0 0), (.int 0 0), (.int 3 0), (.ref 272), (.bool true), (.int 181 0), (.ref 273), .none, (.ref 274), (.ref 275), (.ref 276), (.int 537 0), (.int 120 0), (.str (.ofString "/claim/cut.py") 538)]), #[]⟩
noncomputable def a278 (P : Params) : Obj := ⟨(.type "function"), none, (.func ⟨(.ofString "last_colour"), (.ofString "Stops.last_colour"), pr26, .stmts bd26, sc26, 3, [], .none, .none, .none, (.str (.ofString "outlinemill.gradients") 452), none, (.ref 277), .none, 0⟩), #[]⟩
noncomputable def a279 (P : Params) : Obj := ⟨(.type "tuple"), none, (.seq #[] 0), #[]⟩
noncomputable def a280 (P : Params) : Obj := ⟨.none, none, (.fields #[]), #[]⟩
noncomputable def a281 (P : Params) : Obj := ⟨(.type "tuple"), none, (.seq #[(.str (.ofString "self") 543), (.str (.ofString "t") 544), (.str (.ofString "behind") 545), (.str (.ofString "found") 546)] 0), #[]⟩
noncomputable def a282 (P : Params) : Obj := ⟨(.type "tuple"), none, (.seq #[] 0), #[]⟩
noncomputable def a283 (P : Params) : Obj := ⟨.none, none, (.func ⟨(.ofString "colour"), (.ofString "Stops.colour"), pr27, .stmts bd27, sc27, 0, [], .none, .none, .none, .none, none, .none, .none, 0⟩), #[]⟩
noncomputable def a284 (P : Params) : Obj := ⟨(.type "code"), none, (.fields #[(.str (.ofString "colour") 540), (.str (.ofString "Stops.colour") 541), (.str (.ofString "/claim/cut.py") 542), (.int 125 0), (.int 2 0), (.int 0 0), (.int 0 0), (.int 3 0), (.ref 279), (.bool true), (.int 181 0), (.ref 280), .none, (.ref 281), (.ref 282), (.ref 283), (.int 547 0), (.int 125 0), (.str (.ofString "/claim/cut.py") 548)]), #[]⟩
noncomputable def a285 (P : Params) : Obj := ⟨(.type "function"), none, (.func ⟨(.ofString "colour"), (.ofString "Stops.colour"), pr27, .stmts bd27, sc27, 3, [], .none, .none, .none, (.str (.ofString "outlinemill.gradients") 452), none, (.ref 284), .none, 0⟩), #[]⟩
noncomputable def a286 (P : Params) : Obj := ⟨(.type "tuple"), none, (.seq #[] 0), #[]⟩
noncomputable def a287 (P : Params) : Obj := ⟨.none, none, (.fields #[]), #[]⟩
noncomputable def a288 (P : Params) : Obj := ⟨.none, none, (.func ⟨(.ofString "mixed"), (.ofString "Stops.mixed"), pr28, .stmts bd28, sc28, 0, [], .none, .none, .none, .none, none, .none, .none, 0⟩), #[]⟩
noncomputable def a289 (P : Params) : Obj := ⟨(.type "code"), none, (.fields #[(.str (.ofString "mixed") 550), (.str (.ofString "Stops.mixed") 551), (.str (.ofString "/claim/cut.py") 552), (.int 136 0), (.int 4 0), (.int 0 0), (.int 0 0), (.int 3 0), (.ref 286), (.bool true), (.int 181 0), (.ref 287), .none, .none, .none, (.ref 288), (.int 553 0), (.int 136 0), (.str (.ofString "/claim/cut.py") 554)]), #[]⟩
noncomputable def a290 (P : Params) : Obj := ⟨(.type "function"), none, (.func ⟨(.ofString "mixed"), (.ofString "Stops.mixed"), pr28, .stmts bd28, sc28, 3, [], .none, .none, .none, (.str (.ofString "outlinemill.gradients") 452), none, (.ref 289), .none, 0⟩), #[]⟩
noncomputable def a291 (P : Params) : Obj := ⟨(.type "tuple"), none, (.seq #[(.str (.ofString "stops") 556)] 0), #[]⟩
noncomputable def a292 (P : Params) : Obj := ⟨(.type "dict"), none, (.dict #[(de P "__module__" 515 (.str (.ofString "outlinemill.gradients") 452)), (de P "__firstlineno__" 519 (.int 108 518)), (de P "__init__" 532 (.ref 271)), (de P "last_colour" 539 (.ref 278)), (de P "colour" 549 (.ref 285)), (de P "mixed" 555 (.ref 290)), (de P "__static_attributes__" 557 (.ref 291)), (de P "__dict__" 559 (.ref 294)), (de P "__weakref__" 561 (.ref 295)), (de P "__doc__" 562 .none)] 4), #[]⟩
noncomputable def a293 (P : Params) : Obj := ⟨(.type "type"), none, (.cls ⟨(.ofString "Stops"), [(.type "object")], [(.ref 293), (.type "object")], 292, (.ofString "Stops"), true, [], [], false, none, false⟩), #[none, none, (some (.str (.ofString "Stops") 508)), (some (.str (.ofString "Stops") 516)), (some (.builtin "object.__new__")), (some (.bool true))]⟩
noncomputable def a294 (P : Params) : Obj := ⟨(.type "getset_descriptor"), none, (.fields #[(.str (.ofString "__dict__") 558), (.ref 293), (.builtin "function.__dict__"), (.builtin "function.__dict__#set")]), #[]⟩
noncomputable def a295 (P : Params) : Obj := ⟨(.type "getset_descriptor"), none, (.fields #[(.str (.ofString "__weakref__") 560), (.ref 293), (.builtin "ExceptionGroup.__weakref__"), .none]), #[]⟩
noncomputable def a296 (P : Params) : Obj := ⟨(.type "super"), none, (.fields #[(.ref 293), (.ref 293), (.ref 293)]), #[]⟩
noncomputable def a297 (P : Params) : Obj := ⟨(.type "builtin_function_or_method"), none, (.fields #[(.builtin "object.__init_subclass__"), (.ref 293)]), #[]⟩
noncomputable def a298 (P : Params) : Obj := ⟨(.type "tuple"), none, (.seq #[] 0), #[]⟩
noncomputable def a299 (P : Params) : Obj := ⟨.none, none, (.fields #[]), #[]⟩
noncomputable def a300 (P : Params) : Obj := ⟨(.type "tuple"), none, (.seq #[(.str (.ofString "p") 568), (.str (.ofString "q") 569)] 0), #[]⟩
noncomputable def a301 (P : Params) : Obj := ⟨(.type "tuple"), none, (.seq #[] 0), #[]⟩
noncomputable def a302 (P : Params) : Obj := ⟨.none, none, (.func ⟨(.ofString "less"), (.ofString "less"), pr29, .stmts bd29, sc29, 0, [], .none, .none, .none, .none, none, .none, .none, 0⟩), #[]⟩
noncomputable def a303 (P : Params) : Obj := ⟨(.type "code"), none, (.fields #[(.str (.ofString "less") 565), (.str (.ofString "less") 566), (.str (.ofString "/claim/cut.py") 567), (.int 141 0), (.int 2 0), (.int 0 0), (.int 0 0), (.int 3 0), (.ref 298), (.bool true), (.int 181 0), (.ref 299), .none, (.ref 300), (.ref 301), (.ref 302), (.int 570 0), (.int 141 0), (.str (.ofString "/claim/cut.py") 571)]), #[]⟩
noncomputable def a304 (P : Params) : Obj := ⟨(.type "function"), none, (.func ⟨(.ofString "less"), (.ofString "less"), pr29, .stmts bd29, sc29, 3, [], .none, .none, .none, (.str (.ofString "outlinemill.gradients") 452), none, (.ref 303), .none, 0⟩), #[]⟩
noncomputable def a305 (P : Params) : Obj := ⟨(.type "tuple"), none, (.seq #[] 0), #[]⟩
noncomputable def a306 (P : Params) : Obj := ⟨.none, none, (.fields #[]), #[]⟩
noncomputable def a307 (P : Params) : Obj := ⟨(.type "tuple"), none, (.seq #[(.str (.ofString "v") 576), (.str (.ofString "w") 577)] 0), #[]⟩
noncomputable def a308 (P : Params) : Obj := ⟨(.type "tuple"), none, (.seq #[] 0), #[]⟩
noncomputable def a309 (P : Params) : Obj := ⟨.none, none, (.func ⟨(.ofString "product"), (.ofString "product"), pr30, .stmts bd30, sc30, 0, [], .none, .none, .none, .none, none, .none, .none, 0⟩), #[]⟩
noncomputable def a310 (P : Params) : Obj := ⟨(.type "code"), none, (.fields #[(.str (.ofString "product") 573), (.str (.ofString "product") 574), (.str (.ofString "/claim/cut.py") 575), (.int 143 0), (.int 2 0), (.int 0 0), (.int 0 0), (.int 3 0), (.ref 305), (.bool true), (.int 181 0), (.ref 306), .none, (.ref 307), (.ref 308), (.ref 309), (.int 578 0), (.int 143 0), (.str (.ofString "/claim/cut.py") 579)]), #[]⟩
noncomputable def a311 (P : Params) : Obj := ⟨(.type "function"), none, (.func ⟨(.ofString "product"), (.ofString "product"), pr30, .stmts bd30, sc30, 3, [], .none, .none, .none, (.str (.ofString "outlinemill.gradients") 452), none, (.ref 310), .none, 0⟩), #[]⟩
noncomputable def a312 (P : Params) : Obj := ⟨(.type "tuple"), none, (.seq #[] 0), #[]⟩
noncomputable def a313 (P : Params) : Obj := ⟨(.type "builtin_function_or_method"), none, (.fields #[(.builtin "type.__prepare__"), (.type "type")]), #[]⟩
noncomputable def a314 (P : Params) : Obj := ⟨(.type "dict"), none, (.dict #[(de P "__module__" 588 (.str (.ofString "outlinemill.gradients") 452)), (de P "__qualname__" 590 (.str (.ofString "Linear") 589)), (de P "__firstlineno__" 592 (.int 145 591)), (de P "__init__" 604 (.ref 325)), (de P "share_at" 614 (.ref 332)), (de P "colour_at" 624 (.ref 339)), (de P "__static_attributes__" 631 (.ref 340))] 7), #[]⟩
noncomputable def a315 (P : Params) : Obj := ⟨(.type "tuple"), none, (.seq #[] 0), #[]⟩
noncomputable def a316 (P : Params) : Obj := ⟨.none, none, (.fields #[(.int 147 0), (.int 4 0), (.ref 324), (.int 156 0), (.int 4 0), (.ref 331), (.int 162 0), (.int 4 0), (.ref 338)]), #[]⟩
noncomputable def a317 (P : Params) : Obj := ⟨(.type "code"), none, (.fields #[(.str (.ofString "Linear") 583), (.str (.ofString "Linear") 584), (.str (.ofString "/claim/cut.py") 585), (.int 145 0), (.int 0 0), (.int 0 0), (.int 0 0), (.int 0 0), (.ref 315), (.bool false), (.int 181 0), (.ref 316), .none, .none, .none, .none, (.int 586 0), (.int 145 0), (.str (.ofString "/claim/cut.py") 587)]), #[]⟩
noncomputable def a318 (P : Params) : Obj := ⟨(.type "frame"), none, .plain, #[(some (.ref 317)), (some (.ref 3)), (some (.ref 314)), none, (some (.str (.ofString "outlinemill.gradients") 452)), none, (some (.ref 0))]⟩
noncomputable def a319 (P : Params) : Obj := ⟨(.type "tuple"), none, (.seq #[] 0), #[]⟩
noncomputable def a320 (P : Params) : Obj := ⟨.none, none, (.fields #[]), #[]⟩
noncomputable def a321 (P : Params) : Obj := ⟨(.type "tuple"), none, (.seq #[(.str (.ofString "self") 596), (.str (.ofString "stops") 597), (.str (.ofString "p") 598), (.str (.ofString "q") 599), (.str (.ofString "kind") 600), (.str (.ofString "inverse") 601)] 0), #[]⟩
noncomputable def a322 (P : Params) : Obj := ⟨(.type "tuple"), none, (.seq #[] 0), #[]⟩
noncomputable def a323 (P : Params) : Obj := ⟨.none, none, (.func ⟨(.ofString "__init__"), (.ofString "Linear.__init__"), pr31, .stmts bd31, sc31, 0, [], .none, .none, .none, .none, none, .none, .none, 0⟩), #[]⟩
noncomputable def a324 (P : Params) : Obj := ⟨(.type "code"), none, (.fields #[(.str (.ofString "__init__") 593), (.str (.ofString "Linear.__init__") 594), (.str (.ofString "/claim/cut.py") 595), (.int 147 0), (.int 6 0), (.int 0 0), (.int 0 0), (.int 3 0), (.ref 319), (.bool true), (.int 181 0), (.ref 320), .none, (.ref 321), (.ref 322), (.ref 323), (.int 602 0), (.int 147 0), (.str (.ofString "/claim/cut.py") 603)]), #[]⟩
noncomputable def a325 (P : Params) : Obj := ⟨(.type "function"), none, (.func ⟨(.ofString "__init__"), (.ofString "Linear.__init__"), pr31, .stmts bd31, sc31, 3, [], .none, .none, .none, (.str (.ofString "outlinemill.gradients") 452), none, (.ref 324), .none, 0⟩), #[]⟩
noncomputable def a326 (P : Params) : Obj := ⟨(.type "tuple"), none, (.seq #[] 0), #[]⟩
noncomputable def a327 (P : Params) : Obj := ⟨.none, none, (.fields #[]), #[]⟩
noncomputable def a328 (P : Params) : Obj := ⟨(.type "tuple"), none, (.seq #[(.str (.ofString "self") 608), (.str (.ofString "x") 609), (.str (.ofString "y") 610), (.str (.ofString "here") 611)] 0), #[]⟩
noncomputable def a329 (P : Params) : Obj := ⟨(.type "tuple"), none, (.seq #[] 0), #[]⟩
noncomputable def a330 (P : Params) : Obj := ⟨.none, none, (.func ⟨(.ofString "share_at"), (.ofString "Linear.share_at"), pr32, .stmts bd32, sc32, 0, [], .none, .none, .none, .none, none, .none, .none, 0⟩), #[]⟩
noncomputable def a331 (P : Params) : Obj := ⟨(.type "code"), none, (.fields #[(.str (.ofString "share_at") 605), (.str (.ofString "Linear.share_at") 606), (.str (.ofString "/claim/cut.py") 607), (.int 156 0), (.int 3 0), (.int 0 0), (.int 0 0), (.int 3 0), (.ref 326), (.bool true), (.int 181 0), (.ref 327), .none, (.ref 328), (.ref 329), (.ref 330), (.int 612 0), (.int 156 0), (.str (.ofString "/claim/cut.py") 613)]), #[]⟩
noncomputable def a332 (P : Params) : Obj := ⟨(.type "function"), none, (.func ⟨(.ofString "share_at"), (.ofString "Linear.share_at"), pr32, .stmts bd32, sc32, 3, [], .none, .none, .none, (.str (.ofString "outlinemill.gradients") 452), none, (.ref 331), .none, 0⟩), #[]⟩
noncomputable def a333 (P : Params) : Obj := ⟨(.type "tuple"), none, (.seq #[] 0), #[]⟩
noncomputable def a334 (P : Params) : Obj := ⟨.none, none, (.fields #[]), #[]⟩
noncomputable def a335 (P : Params) : Obj := ⟨(.type "tuple"), none, (.seq #[(.str (.ofString "self") 618), (.str (.ofString "x") 619), (.str (.ofString "y") 620), (.str (.ofString "share") 621)] 0), #[]⟩
noncomputable def a336 (P : Params) : Obj := ⟨(.type "tuple"), none, (.seq #[] 0), #[]⟩
noncomputable def a337 (P : Params) : Obj := ⟨.none, none, (.func ⟨(.ofString "colour_at"), (.ofString "Linear.colour_at"), pr33, .stmts bd33, sc33, 0, [], .none, .none, .none, .none, none, .none, .none, 0⟩), #[]⟩
noncomputable def a338 (P : Params) : Obj := ⟨(.type "code"), none, (.fields #[(.str (.ofString "colour_at") 615), (.str (.ofString "Linear.colour_at") 616), (.str (.ofString "/claim/cut.py") 617), (.int 162 0), (.int 3 0), (.int 0 0), (.int 0 0), (.int 3 0), (.ref 333), (.bool true), (.int 181 0), (.ref 334), .none, (.ref 335), (.ref 336), (.ref 337), (.int 622 0), (.int 162 0), (.str (.ofString "/claim/cut.py") 623)]), #[]⟩
noncomputable def a339 (P : Params) : Obj := ⟨(.type "function"), none, (.func ⟨(.ofString "colour_at"), (.ofString "Linear.colour_at"), pr33, .stmts bd33, sc33, 3, [], .none, .none, .none, (.str (.ofString "outlinemill.gradients") 452), none, (.ref 338), .none, 0⟩), #[]⟩
noncomputable def a340 (P : Params) : Obj := ⟨(.type "tuple"), none, (.seq #[(.str (.ofString "inverse") 625), (.str (.ofString "kind") 626), (.str (.ofString "p") 627), (.str (.ofString "size") 628), (.str (.ofString "stops") 629), (.str (.ofString "way") 630)] 0), #[]⟩
noncomputable def a341 (P : Params) : Obj := ⟨(.type "dict"), none, (.dict #[(de P "__module__" 588 (.str (.ofString "outlinemill.gradients") 452)), (de P "__firstlineno__" 592 (.int 145 591)), (de P "__init__" 604 (.ref 325)), (de P "share_at" 614 (.ref 332)), (de P "colour_at" 624 (.ref 339)), (de P "__static_attributes__" 631 (.ref 340)), (de P "__dict__" 633 (.ref 343)), (de P "__weakref__" 635 (.ref 344)), (de P "__doc__" 636 .none)] 4), #[]⟩
noncomputable def a342 (P : Params) : Obj := ⟨(.type "type"), none, (.cls ⟨(.ofString "Linear"), [(.type "object")], [(.ref 342), (.type "object")], 341, (.ofString "Linear"), true, [], [], false, none, false⟩), #[none, none, (some (.str (.ofString "Linear") 581)), (some (.str (.ofString "Linear") 589)), (some (.builtin "object.__new__")), (some (.bool true))]⟩
noncomputable def a343 (P : Params) : Obj := ⟨(.type "getset_descriptor"), none, (.fields #[(.str (.ofString "__dict__") 632), (.ref 342), (.builtin "function.__dict__"), (.builtin "function.__dict__#set")]), #[]⟩
noncomputable def a344 (P : Params) : Obj := ⟨(.type "getset_descriptor"), none, (.fields #[(.str (.ofString "__weakref__") 634), (.ref 342), (.builtin "ExceptionGroup.__weakref__"), .none]), #[]⟩
noncomputable def a345 (P : Params) : Obj := ⟨(.type "super"), none, (.fields #[(.ref 342), (.ref 342), (.ref 342)]), #[]⟩
noncomputable def a346 (P : Params) : Obj := ⟨(.type "builtin_function_or_method"), none, (.fields #[(.builtin "object.__init_subclass__"), (.ref 342)]), #[]⟩
noncomputable def a347 (P : Params) : Obj := ⟨(.type "tuple"), none, (.seq #[] 0), #[]⟩
noncomputable def a348 (P : Params) : Obj := ⟨.none, none, (.fields #[]), #[]⟩
noncomputable def a349 (P : Params) : Obj := ⟨(.type "tuple"), none, (.seq #[(.str (.ofString "a") 642), (.str (.ofString "bottom") 643)] 0), #[]⟩
noncomputable def a350 (P : Params) : Obj := ⟨(.type "tuple"), none, (.seq #[] 0), #[]⟩
noncomputable def a351 (P : Params) : Obj := ⟨.none, none, (.func ⟨(.ofString "root_of"), (.ofString "root_of"), pr34, .stmts bd34, sc34, 0, [], .none, .none, .none, .none, none, .none, .none, 0⟩), #[]⟩
noncomputable def a352 (P : Params) : Obj := ⟨(.type "code"), none, (.fields #[(.str (.ofString "root_of") 639), (.str (.ofString "root_of") 640), (.str (.ofString "/claim/cut.py") 641), (.int 167 0), (.int 2 0), (.int 0 0), (.int 0 0), (.int 3 0), (.ref 347), (.bool true), (.int 181 0), (.ref 348), .none, (.ref 349), (.ref 350), (.ref 351), (.int 644 0), (.int 167 0), (.str (.ofString "/claim/cut.py") 645)]), #[]⟩
noncomputable def a353 (P : Params) : Obj := ⟨(.type "function"), none, (.func ⟨(.ofString "root_of"), (.ofString "root_of"), pr34, .stmts bd34, sc34, 3, [], .none, .none, .none, (.str (.ofString "outlinemill.gradients") 452), none, (.ref 352), .none, 0⟩), #[]⟩
noncomputable def a354 (P : Params) : Obj := ⟨(.type "tuple"), none, (.seq #[] 0), #[]⟩
noncomputable def a355 (P : Params) : Obj := ⟨.none, none, (.fields #[]), #[]⟩
noncomputable def a356 (P : Params) : Obj := ⟨(.type "tuple"), none, (.seq #[(.str (.ofString "away") 650), (.str (.ofString "radius") 651), (.str (.ofString "bottom") 652), (.str (.ofString "size") 653), (.str (.ofString "length") 654), (.str (.ofString "share") 655)] 0), #[]⟩
noncomputable def a357 (P : Params) : Obj := ⟨(.type "tuple"), none, (.seq #[] 0), #[]⟩
noncomputable def a358 (P : Params) : Obj := ⟨.none, none, (.func ⟨(.ofString "focus_within"), (.ofString "focus_within"), pr35, .stmts bd35, sc35, 0, [], .none, .none, .none, .none, none, .none, .none, 0⟩), #[]⟩
noncomputable def a359 (P : Params) : Obj := ⟨(.type "code"), none, (.fields #[(.str (.ofString "focus_within") 647), (.str (.ofString "focus_within") 648), (.str (.ofString "/claim/cut.py") 649), (.int 169 0), (.int 3 0), (.int 0 0), (.int 0 0), (.int 3 0), (.ref 354), (.bool true), (.int 181 0), (.ref 355), .none, (.ref 356), (.ref 357), (.ref 358), (.int 656 0), (.int 169 0), (.str (.ofString "/claim/cut.py") 657)]), #[]⟩
noncomputable def a360 (P : Params) : Obj := ⟨(.type "function"), none, (.func ⟨(.ofString "focus_within"), (.ofString "focus_within"), pr35, .stmts bd35, sc35, 3, [], .none, .none, .none, (.str (.ofString "outlinemill.gradients") 452), none, (.ref 359), .none, 0⟩), #[]⟩
noncomputable def a361 (P : Params) : Obj := ⟨(.type "tuple"), none, (.seq #[] 0), #[]⟩
noncomputable def a362 (P : Params) : Obj := ⟨(.type "builtin_function_or_method"), none, (.fields #[(.builtin "type.__prepare__"), (.type "type")]), #[]⟩
noncomputable def a363 (P : Params) : Obj := ⟨(.type "dict"), none, (.dict #[(de P "__module__" 666 (.str (.ofString "outlinemill.gradients") 452)), (de P "__qualname__" 668 (.str (.ofString "Radial") 667)), (de P "__firstlineno__" 670 (.int 176 669)), (de P "__init__" 685 (.ref 375)), (de P "share_at" 697 (.ref 382)), (de P "colour_at" 707 (.ref 389)), (de P "__static_attributes__" 716 (.ref 390))] 7), #[]⟩
noncomputable def a364 (P : Params) : Obj := ⟨(.type "tuple"), none, (.seq #[] 0), #[]⟩
noncomputable def a365 (P : Params) : Obj := ⟨.none, none, (.fields #[(.int 178 0), (.int 4 0), (.ref 374), (.int 193 0), (.int 4 0), (.ref 381), (.int 201 0), (.int 4 0), (.ref 388)]), #[]⟩
noncomputable def a366 (P : Params) : Obj := ⟨(.type "code"), none, (.fields #[(.str (.ofString "Radial") 661), (.str (.ofString "Radial") 662), (.str (.ofString "/claim/cut.py") 663), (.int 176 0), (.int 0 0), (.int 0 0), (.int 0 0), (.int 0 0), (.ref 364), (.bool false), (.int 181 0), (.ref 365), .none, .none, .none, .none, (.int 664 0), (.int 176 0), (.str (.ofString "/claim/cut.py") 665)]), #[]⟩
noncomputable def a367 (P : Params) : Obj := ⟨(.type "frame"), none, .plain, #[(some (.ref 366)), (some (.ref 3)), (some (.ref 363)), none, (some (.str (.ofString "outlinemill.gradients") 452)), none, (some (.ref 0))]⟩
noncomputable def a368 (P : Params) : Obj := ⟨(.type "tuple"), none, (.seq #[(.int 256 671)] 0), #[]⟩
noncomputable def a369 (P : Params) : Obj := ⟨(.type "tuple"), none, (.seq #[] 0), #[]⟩
noncomputable def a370 (P : Params) : Obj := ⟨.none, none, (.fields #[]), #[]⟩
noncomputable def a371 (P : Params) : Obj := ⟨(.type "tuple"), none, (.seq #[(.str (.ofString "self") 675), (.str (.ofString "stops") 676), (.str (.ofString "centre") 677), (.str (.ofString "radius") 678), (.str (.ofString "focus") 679), (.str (.ofString "kind") 680), (.str (.ofString "inverse") 681), (.str (.ofString "bottom") 682)] 0), #[]⟩
noncomputable def a372 (P : Params) : Obj := ⟨(.type "tuple"), none, (.seq #[] 0), #[]⟩
noncomputable def a373 (P : Params) : Obj := ⟨.none, none, (.func ⟨(.ofString "__init__"), (.ofString "Radial.__init__"), pr36, .stmts bd36, sc36, 0, [], .none, .none, .none, .none, none, .none, .none, 0⟩), #[]⟩
noncomputable def a374 (P : Params) : Obj := ⟨(.type "code"), none, (.fields #[(.str (.ofString "__init__") 672), (.str (.ofString "Radial.__init__") 673), (.str (.ofString "/claim/cut.py") 674), (.int 178 0), (.int 8 0), (.int 0 0), (.int 0 0), (.int 3 0), (.ref 369), (.bool true), (.int 181 0), (.ref 370), .none, (.ref 371), (.ref 372), (.ref 373), (.int 683 0), (.int 178 0), (.str (.ofString "/claim/cut.py") 684)]), #[]⟩
noncomputable def a375 (P : Params) : Obj := ⟨(.type "function"), none, (.func ⟨(.ofString "__init__"), (.ofString "Radial.__init__"), pr36, .stmts bd36, sc36, 3, [], (.ref 368), .none, .none, (.str (.ofString "outlinemill.gradients") 452), none, (.ref 374), .none, 0⟩), #[]⟩
noncomputable def a376 (P : Params) : Obj := ⟨(.type "tuple"), none, (.seq #[] 0), #[]⟩
noncomputable def a377 (P : Params) : Obj := ⟨.none, none, (.fields #[]), #[]⟩
noncomputable def a378 (P : Params) : Obj := ⟨(.type "tuple"), none, (.seq #[(.str (.ofString "self") 689), (.str (.ofString "x") 690), (.str (.ofString "y") 691), (.str (.ofString "here") 692), (.str (.ofString "turn") 693), (.str (.ofString "root") 694)] 0), #[]⟩
noncomputable def a379 (P : Params) : Obj := ⟨(.type "tuple"), none, (.seq #[] 0), #[]⟩
noncomputable def a380 (P : Params) : Obj := ⟨.none, none, (.func ⟨(.ofString "share_at"), (.ofString "Radial.share_at"), pr37, .stmts bd37, sc37, 0, [], .none, .none, .none, .none, none, .none, .none, 0⟩), #[]⟩
noncomputable def a381 (P : Params) : Obj := ⟨(.type "code"), none, (.fields #[(.str (.ofString "share_at") 686), (.str (.ofString "Radial.share_at") 687), (.str (.ofString "/claim/cut.py") 688), (.int 193 0), (.int 3 0), (.int 0 0), (.int 0 0), (.int 3 0), (.ref 376), (.bool true), (.int 181 0), (.ref 377), .none, (.ref 378), (.ref 379), (.ref 380), (.int 695 0), (.int 193 0), (.str (.ofString "/claim/cut.py") 696)]), #[]⟩
noncomputable def a382 (P : Params) : Obj := ⟨(.type "function"), none, (.func ⟨(.ofString "share_at"), (.ofString "Radial.share_at"), pr37, .stmts bd37, sc37, 3, [], .none, .none, .none, (.str (.ofString "outlinemill.gradients") 452), none, (.ref 381), .none, 0⟩), #[]⟩
noncomputable def a383 (P : Params) : Obj := ⟨(.type "tuple"), none, (.seq #[] 0), #[]⟩
noncomputable def a384 (P : Params) : Obj := ⟨.none, none, (.fields #[]), #[]⟩
noncomputable def a385 (P : Params) : Obj := ⟨(.type "tuple"), none, (.seq #[(.str (.ofString "self") 701), (.str (.ofString "x") 702), (.str (.ofString "y") 703), (.str (.ofString "share") 704)] 0), #[]⟩
noncomputable def a386 (P : Params) : Obj := ⟨(.type "tuple"), none, (.seq #[] 0), #[]⟩
noncomputable def a387 (P : Params) : Obj := ⟨.none, none, (.func ⟨(.ofString "colour_at"), (.ofString "Radial.colour_at"), pr38, .stmts bd38, sc38, 0, [], .none, .none, .none, .none, none, .none, .none, 0⟩), #[]⟩
noncomputable def a388 (P : Params) : Obj := ⟨(.type "code"), none, (.fields #[(.str (.ofString "colour_at") 698), (.str (.ofString "Radial.colour_at") 699), (.str (.ofString "/claim/cut.py") 700), (.int 201 0), (.int 3 0), (.int 0 0), (.int 0 0), (.int 3 0), (.ref 383), (.bool true), (.int 181 0), (.ref 384), .none, (.ref 385), (.ref 386), (.ref 387), (.int 705 0), (.int 201 0), (.str (.ofString "/claim/cut.py") 706)]), #[]⟩
noncomputable def a389 (P : Params) : Obj := ⟨(.type "function"), none, (.func ⟨(.ofString "colour_at"), (.ofString "Radial.colour_at"), pr38, .stmts bd38, sc38, 3, [], .none, .none, .none, (.str (.ofString "outlinemill.gradients") 452), none, (.ref 388), .none, 0⟩), #[]⟩
noncomputable def a390 (P : Params) : Obj := ⟨(.type "tuple"), none, (.seq #[(.str (.ofString "away") 708), (.str (.ofString "bottom") 709), (.str (.ofString "focus") 710), (.str (.ofString "inverse") 711), (.str (.ofString "kind") 712), (.str (.ofString "radius") 713), (.str (.ofString "room") 714), (.str (.ofString "stops") 715)] 0), #[]⟩
noncomputable def a391 (P : Params) : Obj := ⟨(.type "dict"), none, (.dict #[(de P "__module__" 666 (.str (.ofString "outlinemill.gradients") 452)), (de P "__firstlineno__" 670 (.int 176 669)), (de P "__init__" 685 (.ref 375)), (de P "share_at" 697 (.ref 382)), (de P "colour_at" 707 (.ref 389)), (de P "__static_attributes__" 716 (.ref 390)), (de P "__dict__" 718 (.ref 393)), (de P "__weakref__" 720 (.ref 394)), (de P "__doc__" 721 .none)] 4), #[]⟩
noncomputable def a392 (P : Params) : Obj := ⟨(.type "type"), none, (.cls ⟨(.ofString "Radial"), [(.type "object")], [(.ref 392), (.type "object")], 391, (.ofString "Radial"), true, [], [], false, none, false⟩), #[none, none, (some (.str (.ofString "Radial") 659)), (some (.str (.ofString "Radial") 667)), (some (.builtin "object.__new__")), (some (.bool true))]⟩
noncomputable def a393 (P : Params) : Obj := ⟨(.type "getset_descriptor"), none, (.fields #[(.str (.ofString "__dict__") 717), (.ref 392), (.builtin "function.__dict__"), (.builtin "function.__dict__#set")]), #[]⟩
noncomputable def a394 (P : Params) : Obj := ⟨(.type "getset_descriptor"), none, (.fields #[(.str (.ofString "__weakref__") 719), (.ref 392), (.builtin "ExceptionGroup.__weakref__"), .none]), #[]⟩
noncomputable def a395 (P : Params) : Obj := ⟨(.type "super"), none, (.fields #[(.ref 392), (.ref 392), (.ref 392)]), #[]⟩
noncomputable def a396 (P : Params) : Obj := ⟨(.type "builtin_function_or_method"), none, (.fields #[(.builtin "object.__init_subclass__"), (.ref 392)]), #[]⟩
noncomputable def a397 (P : Params) : Obj := ⟨(.type "tuple"), none, (.seq #[] 0), #[]⟩
noncomputable def a398 (P : Params) : Obj := ⟨(.type "builtin_function_or_method"), none, (.fields #[(.builtin "type.__prepare__"), (.type "type")]), #[]⟩
noncomputable def a399 (P : Params) : Obj := ⟨(.type "dict"), none, (.dict #[(de P "__module__" 733 (.str (.ofString "outlinemill.matrix") 724)), (de P "__qualname__" 735 (.str (.ofString "Matrix") 734)), (de P "__firstlineno__" 737 (.int 207 736)), (de P "__init__" 750 (.ref 410)), (de P "row" 757 (.ref 417)), (de P "vector" 767 (.ref 424)), (de P "point" 777 (.ref 431)), (de P "then" 785 (.ref 438)), (de P "determinant" 792 (.ref 445)), (de P "inverse" 803 (.ref 452)), (de P "__static_attributes__" 810 (.ref 453))] 11), #[]⟩
noncomputable def a400 (P : Params) : Obj := ⟨(.type "tuple"), none, (.seq #[] 0), #[]⟩
noncomputable def a401 (P : Params) : Obj := ⟨.none, none, (.fields #[(.int 209 0), (.int 4 0), (.ref 409), (.int 217 0), (.int 4 0), (.ref 416), (.int 220 0), (.int 4 0), (.ref 423), (.int 224 0), (.int 4 0), (.ref 430), (.int 228 0), (.int 4 0), (.ref 437), (.int 231 0), (.int 4 0), (.ref 444), (.int 234 0), (.int 4 0), (.ref 451)]), #[]⟩
noncomputable def a402 (P : Params) : Obj := ⟨(.type "code"), none, (.fields #[(.str (.ofString "Matrix") 728), (.str (.ofString "Matrix") 729), (.str (.ofString "/claim/cut.py") 730), (.int 207 0), (.int 0 0), (.int 0 0), (.int 0 0), (.int 0 0), (.ref 400), (.bool false), (.int 181 0), (.ref 401), .none, .none, .none, .none, (.int 731 0), (.int 207 0), (.str (.ofString "/claim/cut.py") 732)]), #[]⟩
noncomputable def a403 (P : Params) : Obj := ⟨(.type "frame"), none, .plain, #[(some (.ref 402)), (some (.ref 3)), (some (.ref 399)), none, (some (.str (.ofString "outlinemill.matrix") 724)), none, (some (.ref 0))]⟩
noncomputable def a404 (P : Params) : Obj := ⟨(.type "tuple"), none, (.seq #[] 0), #[]⟩
noncomputable def a405 (P : Params) : Obj := ⟨.none, none, (.fields #[]), #[]⟩
noncomputable def a406 (P : Params) : Obj := ⟨(.type "tuple"), none, (.seq #[(.str (.ofString "self") 741), (.str (.ofString "a") 742), (.str (.ofString "b") 743), (.str (.ofString "c") 744), (.str (.ofString "d") 745), (.str (.ofString "e") 746), (.str (.ofString "f") 747)] 0), #[]⟩
noncomputable def a407 (P : Params) : Obj := ⟨(.type "tuple"), none, (.seq #[] 0), #[]⟩
noncomputable def a408 (P : Params) : Obj := ⟨.none, none, (.func ⟨(.ofString "__init__"), (.ofString "Matrix.__init__"), pr39, .stmts bd39, sc39, 0, [], .none, .none, .none, .none, none, .none, .none, 0⟩), #[]⟩
noncomputable def a409 (P : Params) : Obj := ⟨(.type "code"), none, (.fields #[(.str (.ofString "__init__") 738), (.str (.ofString "Matrix.__init__") 739), (.str (.ofString "/claim/cut.py") 740), (.int 209 0), (.int 7 0), (.int 0 0), (.int 0 0), (.int 3 0), (.ref 404), (.bool true), (.int 181 0), (.ref 405), .none, (.ref 406), (.ref 407), (.ref 408), (.int 748 0), (.int 209 0), (.str (.ofString "/claim/cut.py") 749)]), #[]⟩
noncomputable def a410 (P : Params) : Obj := ⟨(.type "function"), none, (.func ⟨(.ofString "__init__"), (.ofString "Matrix.__init__"), pr39, .stmts bd39, sc39, 3, [], .none, .none, .none, (.str (.ofString "outlinemill.matrix") 724), none, (.ref 409), .none, 0⟩), #[]⟩
noncomputable def a411 (P : Params) : Obj := ⟨(.type "tuple"), none, (.seq #[] 0), #[]⟩
noncomputable def a412 (P : Params) : Obj := ⟨.none, none, (.fields #[]), #[]⟩
noncomputable def a413 (P : Params) : Obj := ⟨(.type "tuple"), none, (.seq #[(.str (.ofString "self") 754)] 0), #[]⟩
noncomputable def a414 (P : Params) : Obj := ⟨(.type "tuple"), none, (.seq #[] 0), #[]⟩
noncomputable def a415 (P : Params) : Obj := ⟨.none, none, (.func ⟨(.ofString "row"), (.ofString "Matrix.row"), pr40, .stmts bd40, sc40, 0, [], .none, .none, .none, .none, none, .none, .none, 0⟩), #[]⟩
noncomputable def a416 (P : Params) : Obj := ⟨(.type "code"), none, (.fields #[(.str (.ofString "row") 751), (.str (.ofString "Matrix.row") 752), (.str (.ofString "/claim/cut.py") 753), (.int 217 0), (.int 1 0), (.int 0 0), (.int 0 0), (.int 3 0), (.ref 411), (.bool true), (.int 181 0), (.ref 412), .none, (.ref 413), (.ref 414), (.ref 415), (.int 755 0), (.int 217 0), (.str (.ofString "/claim/cut.py") 756)]), #[]⟩
noncomputable def a417 (P : Params) : Obj := ⟨(.type "function"), none, (.func ⟨(.ofString "row"), (.ofString "Matrix.row"), pr40, .stmts bd40, sc40, 3, [], .none, .none, .none, (.str (.ofString "outlinemill.matrix") 724), none, (.ref 416), .none, 0⟩), #[]⟩
noncomputable def a418 (P : Params) : Obj := ⟨(.type "tuple"), none, (.seq #[] 0), #[]⟩
noncomputable def a419 (P : Params) : Obj := ⟨.none, none, (.fields #[]), #[]⟩
noncomputable def a420 (P : Params) : Obj := ⟨(.type "tuple"), none, (.seq #[(.str (.ofString "self") 761), (.str (.ofString "p") 762), (.str (.ofString "x") 763), (.str (.ofString "y") 764)] 0), #[]⟩
noncomputable def a421 (P : Params) : Obj := ⟨(.type "tuple"), none, (.seq #[] 0), #[]⟩
noncomputable def a422 (P : Params) : Obj := ⟨.none, none, (.func ⟨(.ofString "vector"), (.ofString "Matrix.vector"), pr41, .stmts bd41, sc41, 0, [], .none, .none, .none, .none, none, .none, .none, 0⟩), #[]⟩
noncomputable def a423 (P : Params) : Obj := ⟨(.type "code"), none, (.fields #[(.str (.ofString "vector") 758), (.str (.ofString "Matrix.vector") 759), (.str (.ofString "/claim/cut.py") 760), (.int 220 0), (.int 2 0), (.int 0 0), (.int 0 0), (.int 3 0), (.ref 418), (.bool true), (.int 181 0), (.ref 419), .none, (.ref 420), (.ref 421), (.ref 422), (.int 765 0), (.int 220 0), (.str (.ofString "/claim/cut.py") 766)]), #[]⟩
noncomputable def a424 (P : Params) : Obj := ⟨(.type "function"), none, (.func ⟨(.ofString "vector"), (.ofString "Matrix.vector"), pr41, .stmts bd41, sc41, 3, [], .none, .none, .none, (.str (.ofString "outlinemill.matrix") 724), none, (.ref 423), .none, 0⟩), #[]⟩
noncomputable def a425 (P : Params) : Obj := ⟨(.type "tuple"), none, (.seq #[] 0), #[]⟩
noncomputable def a426 (P : Params) : Obj := ⟨.none, none, (.fields #[]), #[]⟩
noncomputable def a427 (P : Params) : Obj := ⟨(.type "tuple"), none, (.seq #[(.str (.ofString "self") 771), (.str (.ofString "p") 772), (.str (.ofString "x") 773), (.str (.ofString "y") 774)] 0), #[]⟩
noncomputable def a428 (P : Params) : Obj := ⟨(.type "tuple"), none, (.seq #[] 0), #[]⟩
noncomputable def a429 (P : Params) : Obj := ⟨.none, none, (.func ⟨(.ofString "point"), (.ofString "Matrix.point"), pr42, .stmts bd42, sc42, 0, [], .none, .none, .none, .none, none, .none, .none, 0⟩), #[]⟩
noncomputable def a430 (P : Params) : Obj := ⟨(.type "code"), none, (.fields #[(.str (.ofString "point") 768), (.str (.ofString "Matrix.point") 769), (.str (.ofString "/claim/cut.py") 770), (.int 224 0), (.int 2 0), (.int 0 0), (.int 0 0), (.int 3 0), (.ref 425), (.bool true), (.int 181 0), (.ref 426), .none, (.ref 427), (.ref 428), (.ref 429), (.int 775 0), (.int 224 0), (.str (.ofString "/claim/cut.py") 776)]), #[]⟩
noncomputable def a431 (P : Params) : Obj := ⟨(.type "function"), none, (.func ⟨(.ofString "point"), (.ofString "Matrix.point"), pr42, .stmts bd42, sc42, 3, [], .none, .none, .none, (.str (.ofString "outlinemill.matrix") 724), none, (.ref 430), .none, 0⟩), #[]⟩
noncomputable def a432 (P : Params) : Obj := ⟨(.type "tuple"), none, (.seq #[] 0), #[]⟩
noncomputable def a433 (P : Params) : Obj := ⟨.none, none, (.fields #[]), #[]⟩
noncomputable def a434 (P : Params) : Obj := ⟨(.type "tuple"), none, (.seq #[(.str (.ofString "self") 781), (.str (.ofString "other") 782)] 0), #[]⟩
noncomputable def a435 (P : Params) : Obj := ⟨(.type "tuple"), none, (.seq #[] 0), #[]⟩
noncomputable def a436 (P : Params) : Obj := ⟨.none, none, (.func ⟨(.ofString "then"), (.ofString "Matrix.then"), pr43, .stmts bd43, sc43, 0, [], .none, .none, .none, .none, none, .none, .none, 0⟩), #[]⟩
noncomputable def a437 (P : Params) : Obj := ⟨(.type "code"), none, (.fields #[(.str (.ofString "then") 778), (.str (.ofString "Matrix.then") 779), (.str (.ofString "/claim/cut.py") 780), (.int 228 0), (.int 2 0), (.int 0 0), (.int 0 0), (.int 3 0), (.ref 432), (.bool true), (.int 181 0), (.ref 433), .none, (.ref 434), (.ref 435), (.ref 436), (.int 783 0), (.int 228 0), (.str (.ofString "/claim/cut.py") 784)]), #[]⟩
noncomputable def a438 (P : Params) : Obj := ⟨(.type "function"), none, (.func ⟨(.ofString "then"), (.ofString "Matrix.then"), pr43, .stmts bd43, sc43, 3, [], .none, .none, .none, (.str (.ofString "outlinemill.matrix") 724), none, (.ref 437), .none, 0⟩), #[]⟩
noncomputable def a439 (P : Params) : Obj := ⟨(.type "tuple"), none, (.seq #[] 0), #[]⟩
noncomputable def a440 (P : Params) : Obj := ⟨.none, none, (.fields #[]), #[]⟩
noncomputable def a441 (P : Params) : Obj := ⟨(.type "tuple"), none, (.seq #[(.str (.ofString "self") 789)] 0), #[]⟩
noncomputable def a442 (P : Params) : Obj := ⟨(.type "tuple"), none, (.seq #[] 0), #[]⟩
noncomputable def a443 (P : Params) : Obj := ⟨.none, none, (.func ⟨(.ofString "determinant"), (.ofString "Matrix.determinant"), pr44, .stmts bd44, sc44, 0, [], .none, .none, .none, .none, none, .none, .none, 0⟩), #[]⟩
noncomputable def a444 (P : Params) : Obj := ⟨(.type "code"), none, (.fields #[(.str (.ofString "determinant") 786), (.str (.ofString "Matrix.determinant") 787), (.str (.ofString "/claim/cut.py") 788), (.int 231 0), (.int 1 0), (.int 0 0), (.int 0 0), (.int 3 0), (.ref 439), (.bool true), (.int 181 0), (.ref 440), .none, (.ref 441), (.ref 442), (.ref 443), (.int 790 0), (.int 231 0), (.str (.ofString "/claim/cut.py") 791)]), #[]⟩
noncomputable def a445 (P : Params) : Obj := ⟨(.type "function"), none, (.func ⟨(.ofString "determinant"), (.ofString "Matrix.determinant"), pr44, .stmts bd44, sc44, 3, [], .none, .none, .none, (.str (.ofString "outlinemill.matrix") 724), none, (.ref 444), .none, 0⟩), #[]⟩
noncomputable def a446 (P : Params) : Obj := ⟨(.type "tuple"), none, (.seq #[] 0), #[]⟩
noncomputable def a447 (P : Params) : Obj := ⟨.none, none, (.fields #[]), #[]⟩
noncomputable def a448 (P : Params) : Obj := ⟨(.type "tuple"), none, (.seq #[(.str (.ofString "self") 796), (.str (.ofString "whole") 797), (.str (.ofString "turned") 798), (.str (.ofString "e") 799), (.str (.ofString "f") 800)] 0), #[]⟩
noncomputable def a449 (P : Params) : Obj := ⟨(.type "tuple"), none, (.seq #[] 0), #[]⟩
noncomputable def a450 (P : Params) : Obj := ⟨.none, none, (.func ⟨(.ofString "inverse"), (.ofString "Matrix.inverse"), pr45, .stmts bd45, sc45, 0, [], .none, .none, .none, .none, none, .none, .none, 0⟩), #[]⟩
noncomputable def a451 (P : Params) : Obj := ⟨(.type "code"), none, (.fields #[(.str (.ofString "inverse") 793), (.str (.ofString "Matrix.inverse") 794), (.str (.ofString "/claim/cut.py") 795), (.int 234 0), (.int 1 0), (.int 0 0), (.int 0 0), (.int 3 0), (.ref 446), (.bool true), (.int 181 0), (.ref 447), .none, (.ref 448), (.ref 449), (.ref 450), (.int 801 0), (.int 234 0), (.str (.ofString "/claim/cut.py") 802)]), #[]⟩
noncomputable def a452 (P : Params) : Obj := ⟨(.type "function"), none, (.func ⟨(.ofString "inverse"), (.ofString "Matrix.inverse"), pr45, .stmts bd45, sc45, 3, [], .none, .none, .none, (.str (.ofString "outlinemill.matrix") 724), none, (.ref 451), .none, 0⟩), #[]⟩
noncomputable def a453 (P : Params) : Obj := ⟨(.type "tuple"), none, (.seq #[(.str (.ofString "a") 804), (.str (.ofString "b") 805), (.str (.ofString "c") 806), (.str (.ofString "d") 807), (.str (.ofString "e") 808), (.str (.ofString "f") 809)] 0), #[]⟩
noncomputable def a454 (P : Params) : Obj := ⟨(.type "dict"), none, (.dict #[(de P "__module__" 733 (.str (.ofString "outlinemill.matrix") 724)), (de P "__firstlineno__" 737 (.int 207 736)), (de P "__init__" 750 (.ref 410)), (de P "row" 757 (.ref 417)), (de P "vector" 767 (.ref 424)), (de P "point" 777 (.ref 431)), (de P "then" 785 (.ref 438)), (de P "determinant" 792 (.ref 445)), (de P "inverse" 803 (.ref 452)), (de P "__static_attributes__" 810 (.ref 453)), (de P "__dict__" 812 (.ref 456)), (de P "__weakref__" 814 (.ref 457)), (de P "__doc__" 815 .none)] 4), #[]⟩
noncomputable def a455 (P : Params) : Obj := ⟨(.type "type"), none, (.cls ⟨(.ofString "Matrix"), [(.type "object")], [(.ref 455), (.type "object")], 454, (.ofString "Matrix"), true, [], [], false, none, false⟩), #[none, none, (some (.str (.ofString "Matrix") 726)), (some (.str (.ofString "Matrix") 734)), (some (.builtin "object.__new__")), (some (.bool true))]⟩
noncomputable def a456 (P : Params) : Obj := ⟨(.type "getset_descriptor"), none, (.fields #[(.str (.ofString "__dict__") 811), (.ref 455), (.builtin "function.__dict__"), (.builtin "function.__dict__#set")]), #[]⟩
noncomputable def a457 (P : Params) : Obj := ⟨(.type "getset_descriptor"), none, (.fields #[(.str (.ofString "__weakref__") 813), (.ref 455), (.builtin "ExceptionGroup.__weakref__"), .none]), #[]⟩
noncomputable def a458 (P : Params) : Obj := ⟨(.type "super"), none, (.fields #[(.ref 455), (.ref 455), (.ref 455)]), #[]⟩
noncomputable def a459 (P : Params) : Obj := ⟨(.type "builtin_function_or_method"), none, (.fields #[(.builtin "object.__init_subclass__"), (.ref 455)]), #[]⟩
noncomputable def a460 (P : Params) : Obj := ⟨(.type "tuple"), none, (.seq #[] 0), #[]⟩
noncomputable def a461 (P : Params) : Obj := ⟨.none, none, (.fields #[]), #[]⟩
noncomputable def a462 (P : Params) : Obj := ⟨(.type "tuple"), none, (.seq #[] 0), #[]⟩
noncomputable def a463 (P : Params) : Obj := ⟨(.type "tuple"), none, (.seq #[] 0), #[]⟩
noncomputable def a464 (P : Params) : Obj := ⟨.none, none, (.func ⟨(.ofString "identity"), (.ofString "identity"), pr46, .stmts bd46, sc46, 0, [], .none, .none, .none, .none, none, .none, .none, 0⟩), #[]⟩
noncomputable def a465 (P : Params) : Obj := ⟨(.type "code"), none, (.fields #[(.str (.ofString "identity") 818), (.str (.ofString "identity") 819), (.str (.ofString "/claim/cut.py") 820), (.int 241 0), (.int 0 0), (.int 0 0), (.int 0 0), (.int 3 0), (.ref 460), (.bool true), (.int 181 0), (.ref 461), .none, (.ref 462), (.ref 463), (.ref 464), (.int 821 0), (.int 241 0), (.str (.ofString "/claim/cut.py") 822)]), #[]⟩
noncomputable def a466 (P : Params) : Obj := ⟨(.type "function"), none, (.func ⟨(.ofString "identity"), (.ofString "identity"), pr46, .stmts bd46, sc46, 3, [], .none, .none, .none, (.str (.ofString "outlinemill.matrix") 724), none, (.ref 465), .none, 0⟩), #[]⟩
noncomputable def a467 (P : Params) : Obj := ⟨(.type "tuple"), none, (.seq #[] 0), #[]⟩
noncomputable def a468 (P : Params) : Obj := ⟨.none, none, (.fields #[]), #[]⟩
noncomputable def a469 (P : Params) : Obj := ⟨(.type "tuple"), none, (.seq #[(.str (.ofString "script") 829), (.str (.ofString "k") 830), (.str (.ofString "cell") 831), (.str (.ofString "big") 832), (.str (.ofString "mixed") 833)] 0), #[]⟩
noncomputable def a470 (P : Params) : Obj := ⟨(.type "tuple"), none, (.seq #[] 0), #[]⟩
noncomputable def a471 (P : Params) : Obj := ⟨.none, none, (.func ⟨(.ofString "_law_pool"), (.ofString "_law_pool"), pr47, .stmts bd47, sc47, 0, [], .none, .none, .none, .none, none, .none, .none, 0⟩), #[]⟩
noncomputable def a472 (P : Params) : Obj := ⟨(.type "code"), none, (.fields #[(.str (.ofString "_law_pool") 826), (.str (.ofString "_law_pool") 827), (.str (.ofString "/claim/cut.py") 828), (.int 244 0), (.int 2 0), (.int 0 0), (.int 0 0), (.int 3 0), (.ref 467), (.bool true), (.int 181 0), (.ref 468), .none, (.ref 469), (.ref 470), (.ref 471), (.int 834 0), (.int 244 0), (.str (.ofString "/claim/cut.py") 835)]), #[]⟩
noncomputable def a473 (P : Params) : Obj := ⟨(.type "function"), none, (.func ⟨(.ofString "_law_pool"), (.ofString "_law_pool"), pr47, .stmts bd47, sc47, 3, [], .none, .none, .none, (.str (.ofString "law_nu0030_01") 824), none, (.ref 472), .none, 0⟩), #[]⟩
noncomputable def a474 (P : Params) : Obj := ⟨(.type "tuple"), none, (.seq #[] 0), #[]⟩
noncomputable def a475 (P : Params) : Obj := ⟨.none, none, (.fields #[]), #[]⟩
noncomputable def a476 (P : Params) : Obj := ⟨(.type "tuple"), none, (.seq #[(.str (.ofString "source") 840), (.str (.ofString "top") 841), (.str (.ofString "drawn") 842)] 0), #[]⟩
noncomputable def a477 (P : Params) : Obj := ⟨(.type "tuple"), none, (.seq #[] 0), #[]⟩
noncomputable def a478 (P : Params) : Obj := ⟨.none, none, (.func ⟨(.ofString "_law_take"), (.ofString "_law_take"), pr48, .stmts bd48, sc48, 0, [], .none, .none, .none, .none, none, .none, .none, 0⟩), #[]⟩
noncomputable def a479 (P : Params) : Obj := ⟨(.type "code"), none, (.fields #[(.str (.ofString "_law_take") 837), (.str (.ofString "_law_take") 838), (.str (.ofString "/claim/cut.py") 839), (.int 251 0), (.int 2 0), (.int 0 0), (.int 0 0), (.int 3 0), (.ref 474), (.bool true), (.int 181 0), (.ref 475), .none, (.ref 476), (.ref 477), (.ref 478), (.int 843 0), (.int 251 0), (.str (.ofString "/claim/cut.py") 844)]), #[]⟩
noncomputable def a480 (P : Params) : Obj := ⟨(.type "function"), none, (.func ⟨(.ofString "_law_take"), (.ofString "_law_take"), pr48, .stmts bd48, sc48, 3, [], .none, .none, .none, (.str (.ofString "law_nu0030_01") 824), none, (.ref 479), .none, 0⟩), #[]⟩
noncomputable def a481 (P : Params) : Obj := ⟨(.type "tuple"), none, (.seq #[] 0), #[]⟩
noncomputable def a482 (P : Params) : Obj := ⟨.none, none, (.fields #[]), #[]⟩
noncomputable def a483 (P : Params) : Obj := ⟨(.type "tuple"), none, (.seq #[(.str (.ofString "source") 849), (.str (.ofString "things") 850)] 0), #[]⟩
noncomputable def a484 (P : Params) : Obj := ⟨(.type "tuple"), none, (.seq #[] 0), #[]⟩
noncomputable def a485 (P : Params) : Obj := ⟨.none, none, (.func ⟨(.ofString "_law_one"), (.ofString "_law_one"), pr49, .stmts bd49, sc49, 0, [], .none, .none, .none, .none, none, .none, .none, 0⟩), #[]⟩
noncomputable def a486 (P : Params) : Obj := ⟨(.type "code"), none, (.fields #[(.str (.ofString "_law_one") 846), (.str (.ofString "_law_one") 847), (.str (.ofString "/claim/cut.py") 848), (.int 258 0), (.int 2 0), (.int 0 0), (.int 0 0), (.int 3 0), (.ref 481), (.bool true), (.int 181 0), (.ref 482), .none, (.ref 483), (.ref 484), (.ref 485), (.int 851 0), (.int 258 0), (.str (.ofString "/claim/cut.py") 852)]), #[]⟩
noncomputable def a487 (P : Params) : Obj := ⟨(.type "function"), none, (.func ⟨(.ofString "_law_one"), (.ofString "_law_one"), pr49, .stmts bd49, sc49, 3, [], .none, .none, .none, (.str (.ofString "law_nu0030_01") 824), none, (.ref 486), .none, 0⟩), #[]⟩
noncomputable def a488 (P : Params) : Obj := ⟨(.type "tuple"), none, (.seq #[] 0), #[]⟩
noncomputable def a489 (P : Params) : Obj := ⟨.none, none, (.fields #[]), #[]⟩
noncomputable def a490 (P : Params) : Obj := ⟨.none, none, (.func ⟨(.ofString "_law_stops"), (.ofString "_law_stops"), pr50, .stmts bd50, sc50, 0, [], .none, .none, .none, .none, none, .none, .none, 0⟩), #[]⟩
noncomputable def a491 (P : Params) : Obj := ⟨(.type "code"), none, (.fields #[(.str (.ofString "_law_stops") 854), (.str (.ofString "_law_stops") 855), (.str (.ofString "/claim/cut.py") 856), (.int 260 0), (.int 1 0), (.int 0 0), (.int 0 0), (.int 3 0), (.ref 488), (.bool true), (.int 181 0), (.ref 489), .none, .none, .none, (.ref 490), (.int 857 0), (.int 260 0), (.str (.ofString "/claim/cut.py") 858)]), #[]⟩
noncomputable def a492 (P : Params) : Obj := ⟨(.type "function"), none, (.func ⟨(.ofString "_law_stops"), (.ofString "_law_stops"), pr50, .stmts bd50, sc50, 3, [], .none, .none, .none, (.str (.ofString "law_nu0030_01") 824), none, (.ref 491), .none, 0⟩), #[]⟩
noncomputable def a493 (P : Params) : Obj := ⟨(.type "tuple"), none, (.seq #[] 0), #[]⟩
noncomputable def a494 (P : Params) : Obj := ⟨.none, none, (.fields #[]), #[]⟩
noncomputable def a495 (P : Params) : Obj := ⟨(.type "tuple"), none, (.seq #[(.str (.ofString "stops") 863), (.str (.ofString "found") 864), (.str (.ofString "last") 865), (.str (.ofString "eighths") 866), (.str (.ofString "shade") 867), (.str (.ofString "alpha") 868)] 0), #[]⟩
noncomputable def a496 (P : Params) : Obj := ⟨(.type "tuple"), none, (.seq #[] 0), #[]⟩
noncomputable def a497 (P : Params) : Obj := ⟨.none, none, (.func ⟨(.ofString "_law_ordered"), (.ofString "_law_ordered"), pr51, .stmts bd51, sc51, 0, [], .none, .none, .none, .none, none, .none, .none, 0⟩), #[]⟩
noncomputable def a498 (P : Params) : Obj := ⟨(.type "code"), none, (.fields #[(.str (.ofString "_law_ordered") 860), (.str (.ofString "_law_ordered") 861), (.str (.ofString "/claim/cut.py") 862), (.int 266 0), (.int 1 0), (.int 0 0), (.int 0 0), (.int 3 0), (.ref 493), (.bool true), (.int 181 0), (.ref 494), .none, (.ref 495), (.ref 496), (.ref 497), (.int 869 0), (.int 266 0), (.str (.ofString "/claim/cut.py") 870)]), #[]⟩
noncomputable def a499 (P : Params) : Obj := ⟨(.type "function"), none, (.func ⟨(.ofString "_law_ordered"), (.ofString "_law_ordered"), pr51, .stmts bd51, sc51, 3, [], .none, .none, .none, (.str (.ofString "law_nu0030_01") 824), none, (.ref 498), .none, 0⟩), #[]⟩
noncomputable def a500 (P : Params) : Obj := ⟨(.type "tuple"), none, (.seq #[] 0), #[]⟩
noncomputable def a501 (P : Params) : Obj := ⟨.none, none, (.fields #[]), #[]⟩
noncomputable def a502 (P : Params) : Obj := ⟨(.type "tuple"), none, (.seq #[(.str (.ofString "kind") 875), (.str (.ofString "top") 876), (.str (.ofString "bottom") 877)] 0), #[]⟩
noncomputable def a503 (P : Params) : Obj := ⟨(.type "tuple"), none, (.seq #[] 0), #[]⟩
noncomputable def a504 (P : Params) : Obj := ⟨.none, none, (.func ⟨(.ofString "_law_spread"), (.ofString "_law_spread"), pr52, .stmts bd52, sc52, 0, [], .none, .none, .none, .none, none, .none, .none, 0⟩), #[]⟩
noncomputable def a505 (P : Params) : Obj := ⟨(.type "code"), none, (.fields #[(.str (.ofString "_law_spread") 872), (.str (.ofString "_law_spread") 873), (.str (.ofString "/claim/cut.py") 874), (.int 272 0), (.int 3 0), (.int 0 0), (.int 0 0), (.int 3 0), (.ref 500), (.bool true), (.int 181 0), (.ref 501), .none, (.ref 502), (.ref 503), (.ref 504), (.int 878 0), (.int 272 0), (.str (.ofString "/claim/cut.py") 879)]), #[]⟩
noncomputable def a506 (P : Params) : Obj := ⟨(.type "function"), none, (.func ⟨(.ofString "_law_spread"), (.ofString "_law_spread"), pr52, .stmts bd52, sc52, 3, [], .none, .none, .none, (.str (.ofString "law_nu0030_01") 824), none, (.ref 505), .none, 0⟩), #[]⟩
noncomputable def a507 (P : Params) : Obj := ⟨(.type "tuple"), none, (.seq #[] 0), #[]⟩
noncomputable def a508 (P : Params) : Obj := ⟨.none, none, (.fields #[]), #[]⟩
noncomputable def a509 (P : Params) : Obj := ⟨.none, none, (.func ⟨(.ofString "_law_weighted"), (.ofString "_law_weighted"), pr53, .stmts bd53, sc53, 0, [], .none, .none, .none, .none, none, .none, .none, 0⟩), #[]⟩
noncomputable def a510 (P : Params) : Obj := ⟨(.type "code"), none, (.fields #[(.str (.ofString "_law_weighted") 881), (.str (.ofString "_law_weighted") 882), (.str (.ofString "/claim/cut.py") 883), (.int 278 0), (.int 1 0), (.int 0 0), (.int 0 0), (.int 3 0), (.ref 507), (.bool true), (.int 181 0), (.ref 508), .none, .none, .none, (.ref 509), (.int 884 0), (.int 278 0), (.str (.ofString "/claim/cut.py") 885)]), #[]⟩
noncomputable def a511 (P : Params) : Obj := ⟨(.type "function"), none, (.func ⟨(.ofString "_law_weighted"), (.ofString "_law_weighted"), pr53, .stmts bd53, sc53, 3, [], .none, .none, .none, (.str (.ofString "law_nu0030_01") 824), none, (.ref 510), .none, 0⟩), #[]⟩
noncomputable def a512 (P : Params) : Obj := ⟨(.type "tuple"), none, (.seq #[] 0), #[]⟩
noncomputable def a513 (P : Params) : Obj := ⟨.none, none, (.fields #[]), #[]⟩
noncomputable def a514 (P : Params) : Obj := ⟨.none, none, (.func ⟨(.ofString "_law_colour"), (.ofString "_law_colour"), pr54, .stmts bd54, sc54, 0, [], .none, .none, .none, .none, none, .none, .none, 0⟩), #[]⟩
noncomputable def a515 (P : Params) : Obj := ⟨(.type "code"), none, (.fields #[(.str (.ofString "_law_colour") 887), (.str (.ofString "_law_colour") 888), (.str (.ofString "/claim/cut.py") 889), (.int 280 0), (.int 3 0), (.int 0 0), (.int 0 0), (.int 3 0), (.ref 512), (.bool true), (.int 181 0), (.ref 513), .none, .none, .none, (.ref 514), (.int 890 0), (.int 280 0), (.str (.ofString "/claim/cut.py") 891)]), #[]⟩
noncomputable def a516 (P : Params) : Obj := ⟨(.type "function"), none, (.func ⟨(.ofString "_law_colour"), (.ofString "_law_colour"), pr54, .stmts bd54, sc54, 3, [], .none, .none, .none, (.str (.ofString "law_nu0030_01") 824), none, (.ref 515), .none, 0⟩), #[]⟩
noncomputable def a517 (P : Params) : Obj := ⟨(.type "tuple"), none, (.seq #[] 0), #[]⟩
noncomputable def a518 (P : Params) : Obj := ⟨.none, none, (.fields #[]), #[]⟩
noncomputable def a519 (P : Params) : Obj := ⟨(.type "tuple"), none, (.seq #[(.str (.ofString "x") 896), (.str (.ofString "y") 897)] 0), #[]⟩
noncomputable def a520 (P : Params) : Obj := ⟨(.type "tuple"), none, (.seq #[] 0), #[]⟩
noncomputable def a521 (P : Params) : Obj := ⟨.none, none, (.func ⟨(.ofString "_law_middle"), (.ofString "_law_middle"), pr55, .stmts bd55, sc55, 0, [], .none, .none, .none, .none, none, .none, .none, 0⟩), #[]⟩
noncomputable def a522 (P : Params) : Obj := ⟨(.type "code"), none, (.fields #[(.str (.ofString "_law_middle") 893), (.str (.ofString "_law_middle") 894), (.str (.ofString "/claim/cut.py") 895), (.int 289 0), (.int 2 0), (.int 0 0), (.int 0 0), (.int 3 0), (.ref 517), (.bool true), (.int 181 0), (.ref 518), .none, (.ref 519), (.ref 520), (.ref 521), (.int 898 0), (.int 289 0), (.str (.ofString "/claim/cut.py") 899)]), #[]⟩
noncomputable def a523 (P : Params) : Obj := ⟨(.type "function"), none, (.func ⟨(.ofString "_law_middle"), (.ofString "_law_middle"), pr55, .stmts bd55, sc55, 3, [], .none, .none, .none, (.str (.ofString "law_nu0030_01") 824), none, (.ref 522), .none, 0⟩), #[]⟩
noncomputable def a524 (P : Params) : Obj := ⟨(.type "tuple"), none, (.seq #[] 0), #[]⟩
noncomputable def a525 (P : Params) : Obj := ⟨.none, none, (.fields #[]), #[]⟩
noncomputable def a526 (P : Params) : Obj := ⟨(.type "tuple"), none, (.seq #[(.str (.ofString "source") 904), (.str (.ofString "stops") 905), (.str (.ofString "told") 906), (.str (.ofString "kind") 907), (.str (.ofString "x") 908), (.str (.ofString "y") 909), (.str (.ofString "step") 910), (.str (.ofString "many") 911), (.str (.ofString "end") 912), (.str (.ofString "line") 913), (.str (.ofString "at") 914), (.str (.ofString "aside") 915), (.str (.ofString "here") 916), (.str (.ofString "none") 917)] 0), #[]⟩
noncomputable def a527 (P : Params) : Obj := ⟨(.type "tuple"), none, (.seq #[] 0), #[]⟩
noncomputable def a528 (P : Params) : Obj := ⟨.none, none, (.func ⟨(.ofString "_law_line_right"), (.ofString "_law_line_right"), pr56, .stmts bd56, sc56, 0, [], .none, .none, .none, .none, none, .none, .none, 0⟩), #[]⟩
noncomputable def a529 (P : Params) : Obj := ⟨(.type "code"), none, (.fields #[(.str (.ofString "_law_line_right") 901), (.str (.ofString "_law_line_right") 902), (.str (.ofString "/claim/cut.py") 903), (.int 291 0), (.int 4 0), (.int 0 0), (.int 0 0), (.int 3 0), (.ref 524), (.bool true), (.int 181 0), (.ref 525), .none, (.ref 526), (.ref 527), (.ref 528), (.int 918 0), (.int 291 0), (.str (.ofString "/claim/cut.py") 919)]), #[]⟩
noncomputable def a530 (P : Params) : Obj := ⟨(.type "function"), none, (.func ⟨(.ofString "_law_line_right"), (.ofString "_law_line_right"), pr56, .stmts bd56, sc56, 3, [], .none, .none, .none, (.str (.ofString "law_nu0030_01") 824), none, (.ref 529), .none, 0⟩), #[]⟩
noncomputable def a531 (P : Params) : Obj := ⟨(.type "tuple"), none, (.seq #[] 0), #[]⟩
noncomputable def a532 (P : Params) : Obj := ⟨.none, none, (.fields #[]), #[]⟩
noncomputable def a533 (P : Params) : Obj := ⟨(.type "tuple"), none, (.seq #[(.str (.ofString "source") 924), (.str (.ofString "stops") 925), (.str (.ofString "told") 926), (.str (.ofString "kind") 927), (.str (.ofString "x") 928), (.str (.ofString "y") 929), (.str (.ofString "radius") 930), (.str (.ofString "off") 931), (.str (.ofString "far") 932), (.str (.ofString "away") 933), (.str (.ofString "way") 934), (.str (.ofString "room") 935), (.str (.ofString "even") 936)] 0), #[]⟩
noncomputable def a534 (P : Params) : Obj := ⟨(.type "tuple"), none, (.seq #[] 0), #[]⟩
noncomputable def a535 (P : Params) : Obj := ⟨.none, none, (.func ⟨(.ofString "_law_round_right"), (.ofString "_law_round_right"), pr57, .stmts bd57, sc57, 0, [], .none, .none, .none, .none, none, .none, .none, 0⟩), #[]⟩
noncomputable def a536 (P : Params) : Obj := ⟨(.type "code"), none, (.fields #[(.str (.ofString "_law_round_right") 921), (.str (.ofString "_law_round_right") 922), (.str (.ofString "/claim/cut.py") 923), (.int 305 0), (.int 4 0), (.int 0 0), (.int 0 0), (.int 3 0), (.ref 531), (.bool true), (.int 181 0), (.ref 532), .none, (.ref 533), (.ref 534), (.ref 535), (.int 937 0), (.int 305 0), (.str (.ofString "/claim/cut.py") 938)]), #[]⟩
noncomputable def a537 (P : Params) : Obj := ⟨(.type "function"), none, (.func ⟨(.ofString "_law_round_right"), (.ofString "_law_round_right"), pr57, .stmts bd57, sc57, 3, [], .none, .none, .none, (.str (.ofString "law_nu0030_01") 824), none, (.ref 536), .none, 0⟩), #[]⟩
noncomputable def a538 (P : Params) : Obj := ⟨(.type "tuple"), none, (.seq #[] 0), #[]⟩
noncomputable def a539 (P : Params) : Obj := ⟨.none, none, (.fields #[]), #[]⟩
noncomputable def a540 (P : Params) : Obj := ⟨(.type "tuple"), none, (.seq #[(.str (.ofString "told") 943), (.str (.ofString "kind") 944), (.str (.ofString "radius") 945), (.str (.ofString "place") 946)] 0), #[]⟩
noncomputable def a541 (P : Params) : Obj := ⟨(.type "tuple"), none, (.seq #[] 0), #[]⟩
noncomputable def a542 (P : Params) : Obj := ⟨.none, none, (.func ⟨(.ofString "_law_refused"), (.ofString "_law_refused"), pr58, .stmts bd58, sc58, 0, [], .none, .none, .none, .none, none, .none, .none, 0⟩), #[]⟩
noncomputable def a543 (P : Params) : Obj := ⟨(.type "code"), none, (.fields #[(.str (.ofString "_law_refused") 940), (.str (.ofString "_law_refused") 941), (.str (.ofString "/claim/cut.py") 942), (.int 314 0), (.int 3 0), (.int 0 0), (.int 0 0), (.int 3 0), (.ref 538), (.bool true), (.int 181 0), (.ref 539), .none, (.ref 540), (.ref 541), (.ref 542), (.int 947 0), (.int 314 0), (.str (.ofString "/claim/cut.py") 948)]), #[]⟩
noncomputable def a544 (P : Params) : Obj := ⟨(.type "function"), none, (.func ⟨(.ofString "_law_refused"), (.ofString "_law_refused"), pr58, .stmts bd58, sc58, 3, [], .none, .none, .none, (.str (.ofString "law_nu0030_01") 824), none, (.ref 543), .none, 0⟩), #[]⟩
noncomputable def a545 (P : Params) : Obj := ⟨(.type "tuple"), none, (.seq #[] 0), #[]⟩
noncomputable def a546 (P : Params) : Obj := ⟨.none, none, (.fields #[]), #[]⟩
noncomputable def a547 (P : Params) : Obj := ⟨(.type "tuple"), none, (.seq #[(.str (.ofString "stops") 953), (.str (.ofString "told") 954), (.str (.ofString "kind") 955), (.str (.ofString "rows") 956), (.str (.ofString "place") 957), (.str (.ofString "eighths") 958), (.str (.ofString "parts") 959), (.str (.ofString "none") 960)] 0), #[]⟩
noncomputable def a548 (P : Params) : Obj := ⟨(.type "tuple"), none, (.seq #[] 0), #[]⟩
noncomputable def a549 (P : Params) : Obj := ⟨.none, none, (.func ⟨(.ofString "_law_odd_right"), (.ofString "_law_odd_right"), pr59, .stmts bd59, sc59, 0, [], .none, .none, .none, .none, none, .none, .none, 0⟩), #[]⟩
noncomputable def a550 (P : Params) : Obj := ⟨(.type "code"), none, (.fields #[(.str (.ofString "_law_odd_right") 950), (.str (.ofString "_law_odd_right") 951), (.str (.ofString "/claim/cut.py") 952), (.int 321 0), (.int 3 0), (.int 0 0), (.int 0 0), (.int 3 0), (.ref 545), (.bool true), (.int 181 0), (.ref 546), .none, (.ref 547), (.ref 548), (.ref 549), (.int 961 0), (.int 321 0), (.str (.ofString "/claim/cut.py") 962)]), #[]⟩
noncomputable def a551 (P : Params) : Obj := ⟨(.type "function"), none, (.func ⟨(.ofString "_law_odd_right"), (.ofString "_law_odd_right"), pr59, .stmts bd59, sc59, 3, [], .none, .none, .none, (.str (.ofString "law_nu0030_01") 824), none, (.ref 550), .none, 0⟩), #[]⟩
noncomputable def a552 (P : Params) : Obj := ⟨(.type "tuple"), none, (.seq #[] 0), #[]⟩
noncomputable def a553 (P : Params) : Obj := ⟨.none, none, (.fields #[]), #[]⟩
noncomputable def a554 (P : Params) : Obj := ⟨.none, none, (.func ⟨(.ofString "law"), (.ofString "law"), pr60, .stmts bd60, sc60, 0, [], .none, .none, .none, .none, none, .none, .none, 0⟩), #[]⟩
noncomputable def a555 (P : Params) : Obj := ⟨(.type "code"), none, (.fields #[(.str (.ofString "law") 964), (.str (.ofString "law") 965), (.str (.ofString "/claim/cut.py") 966), (.int 330 0), (.int 1 0), (.int 0 0), (.int 0 0), (.int 3 0), (.ref 552), (.bool true), (.int 181 0), (.ref 553), .none, .none, .none, (.ref 554), (.int 967 0), (.int 330 0), (.str (.ofString "/claim/cut.py") 968)]), #[]⟩
noncomputable def a556 (P : Params) : Obj := ⟨(.type "function"), none, (.func ⟨(.ofString "law"), (.ofString "law"), pr60, .stmts bd60, sc60, 3, [], .none, .none, .none, (.str (.ofString "law_nu0030_01") 824), none, (.ref 555), .none, 0⟩), #[]⟩
noncomputable def a12_47 (P : Params) : Obj := ⟨.none, none, (.fields #[]), #[]⟩
noncomputable def a3_168 (P : Params) : Obj := ⟨(.type "dict"), none, (.dict #[(de P "__name__" 165 (.str (.ofString "outlinemill.exact") 293)), (de P "__doc__" 166 .none), (de P "__package__" 167 .none), (de P "__loader__" 168 (.builtin "__main__.__loader__#opaque")), (de P "__spec__" 169 .none), (de P "__annotations__" 170 (.ref 6)), (de P "__builtins__" 171 (.ref 4)), (de P "__file__" 173 (.str (.ofString "/claim/cut.py") 172)), (de P "__cached__" 174 .none), (de P "_wall" 193 (.ref 21)), (de P "MOST" 197 (.int 255 196)), (de P "weighted" 205 (.ref 28)), (de P "premultiplied" 213 (.ref 35)), (de P "MillError" 244 (.ref 52)), (de P "NumberFault" 260 (.ref 65)), (de P "MatrixFault" 276 (.ref 77)), (de P "SheetFault" 292 (.ref 89)), (de P "ZERO" 297 (.ref 92)), (de P "ONE" 300 (.ref 93)), (de P "common_divisor" 310 (.ref 100)), (de P "fraction" 320 (.ref 108)), (de P "plus" 328 (.ref 115)), (de P "minus" 336 (.ref 122))] 23), #[]⟩
noncomputable def a12_168 (P : Params) : Obj := ⟨.none, none, (.fields #[(.int 1 0), (.int 0 0), (.ref 20), (.int 6 0), (.int 0 0), (.ref 27), (.int 8 0), (.int 0 0), (.ref 34), (.int 11 0), (.int 0 0), (.ref 41), (.int 15 0), (.int 0 0), (.ref 61), (.int 17 0), (.int 0 0), (.ref 73), (.int 19 0), (.int 0 0), (.ref 85), (.int 24 0), (.int 0 0), (.ref 99), (.int 29 0), (.int 0 0), (.ref 107), (.int 36 0), (.int 0 0), (.ref 114), (.int 38 0), (.int 0 0), (.ref 121)]), #[]⟩
noncomputable def a3_363 (P : Params) : Obj := ⟨(.type "dict"), none, (.dict #[(de P "__name__" 165 (.str (.ofString "outlinemill.gradients") 452)), (de P "__doc__" 166 .none), (de P "__package__" 167 .none), (de P "__loader__" 168 (.builtin "__main__.__loader__#opaque")), (de P "__spec__" 169 .none), (de P "__annotations__" 170 (.ref 6)), (de P "__builtins__" 171 (.ref 4)), (de P "__file__" 173 (.str (.ofString "/claim/cut.py") 172)), (de P "__cached__" 174 .none), (de P "_wall" 193 (.ref 21)), (de P "MOST" 197 (.int 255 196)), (de P "weighted" 205 (.ref 28)), (de P "premultiplied" 213 (.ref 35)), (de P "MillError" 244 (.ref 52)), (de P "NumberFault" 260 (.ref 65)), (de P "MatrixFault" 276 (.ref 77)), (de P "SheetFault" 292 (.ref 89)), (de P "ZERO" 297 (.ref 92)), (de P "ONE" 300 (.ref 93)), (de P "common_divisor" 310 (.ref 100)), (de P "fraction" 320 (.ref 108)), (de P "plus" 328 (.ref 115)), (de P "minus" 336 (.ref 122)), (de P "times" 344 (.ref 129)), (de P "divided" 352 (.ref 136)), (de P "negated" 359 (.ref 143)), (de P "sign_of" 366 (.ref 150)), (de P "compare" 374 (.ref 157)), (de P "floor_of" 381 (.ref 164)), (de P "rounded" 388 (.ref 171)), (de P "root_floor" 397 (.ref 178)), (de P "middle_of" 407 (.ref 185)), (de P "KINDS" 413 (.ref 186)), (de P "check_kind" 420 (.ref 193)), (de P "part_of" 427 (.ref 200)), (de P "reflected" 436 (.ref 207)), (de P "padded" 443 (.ref 214)), (de P "spread" 451 (.ref 221)), (de P "CLEAR" 458 (.ref 222)), (de P "Stop" 498 (.ref 246)), (de P "between_parts" 507 (.ref 257)), (de P "Stops" 564 (.ref 293)), (de P "less" 572 (.ref 304)), (de P "product" 580 (.ref 311))] 44), #[]⟩
noncomputable def a12_363 (P : Params) : Obj := ⟨.none, none, (.fields ((.int 1 0) :: (.int 0 0) :: (.ref 20) :: (.int 6 0) :: (.int 0 0) :: (.ref 27) :: (.int 8 0) :: (.int 0 0) :: (.ref 34) :: (.int 11 0) :: (.int 0 0) :: (.ref 41) :: (.int 15 0) :: (.int 0 0) :: (.ref 61) :: (.int 17 0) :: (.int 0 0) :: (.ref 73) :: (.int 19 0) :: (.int 0 0) :: (.ref 85) :: (.int 24 0) :: (.int 0 0) :: (.ref 99) :: (.int 29 0) :: (.int 0 0) :: (.ref 107) :: (.int 36 0) :: (.int 0 0) :: (.ref 114) :: (.int 38 0) :: (.int 0 0) :: (.ref 121) :: (.int 40 0) :: (.int 0 0) :: (.ref 128) :: (.int 42 0) :: (.int 0 0) :: (.ref 135) :: (.int 46 0) :: (.int 0 0) :: (.ref 142) :: (.int 48 0) :: (.int 0 0) :: (.ref 149) :: (.int 54 0) :: (.int 0 0) :: (.ref 156) :: (.int 56 0) :: (.int 0 0) :: (.ref 163) :: (.int 58 0) :: (.int 0 0) :: (.ref 170) :: (.int 60 0) :: (.int 0 0) :: (.ref 177) :: (.int 74 0) :: (.int 0 0) :: (.ref 184) :: (.int 78 0) :: (.int 0 0) :: (.ref 192) :: (.int 81 0) :: (.int 0 0) :: (.ref 199) :: (.int 83 0) :: (.int 0 0) :: (.ref 206) :: (.int 86 0) :: (.int 0 0) :: (.ref 213) :: (.int 90 0) :: (.int 0 0) :: (.ref 220) :: (.int 97 0) :: (.int 0 0) :: (.ref 228) :: (.int 106 0) :: (.int 0 0) :: (.ref 256) :: (.int 108 0) :: (.int 0 0) :: (.ref 263) :: (.int 141 0) :: (.int 0 0) :: (.ref 303) :: (.int 143 0) :: (.int 0 0) :: (.ref 310) :: [] : List _).toArray), #[]⟩
noncomputable def a3_517 (P : Params) : Obj := ⟨(.type "dict"), none, (.dict #[(de P "__name__" 165 (.str (.ofString "outlinemill.matrix") 724)), (de P "__doc__" 166 .none), (de P "__package__" 167 .none), (de P "__loader__" 168 (.builtin "__main__.__loader__#opaque")), (de P "__spec__" 169 .none), (de P "__annotations__" 170 (.ref 6)), (de P "__builtins__" 171 (.ref 4)), (de P "__file__" 173 (.str (.ofString "/claim/cut.py") 172)), (de P "__cached__" 174 .none), (de P "_wall" 193 (.ref 21)), (de P "MOST" 197 (.int 255 196)), (de P "weighted" 205 (.ref 28)), (de P "premultiplied" 213 (.ref 35)), (de P "MillError" 244 (.ref 52)), (de P "NumberFault" 260 (.ref 65)), (de P "MatrixFault" 276 (.ref 77)), (de P "SheetFault" 292 (.ref 89)), (de P "ZERO" 297 (.ref 92)), (de P "ONE" 300 (.ref 93)), (de P "common_divisor" 310 (.ref 100)), (de P "fraction" 320 (.ref 108)), (de P "plus" 328 (.ref 115)), (de P "minus" 336 (.ref 122)), (de P "times" 344 (.ref 129)), (de P "divided" 352 (.ref 136)), (de P "negated" 359 (.ref 143)), (de P "sign_of" 366 (.ref 150)), (de P "compare" 374 (.ref 157)), (de P "floor_of" 381 (.ref 164)), (de P "rounded" 388 (.ref 171)), (de P "root_floor" 397 (.ref 178)), (de P "middle_of" 407 (.ref 185)), (de P "KINDS" 413 (.ref 186)), (de P "check_kind" 420 (.ref 193)), (de P "part_of" 427 (.ref 200)), (de P "reflected" 436 (.ref 207)), (de P "padded" 443 (.ref 214)), (de P "spread" 451 (.ref 221)), (de P "CLEAR" 458 (.ref 222)), (de P "Stop" 498 (.ref 246)), (de P "between_parts" 507 (.ref 257)), (de P "Stops" 564 (.ref 293)), (de P "less" 572 (.ref 304)), (de P "product" 580 (.ref 311)), (de P "Linear" 638 (.ref 342)), (de P "root_of" 646 (.ref 353)), (de P "focus_within" 658 (.ref 360)), (de P "Radial" 723 (.ref 392)), (de P "Matrix" 817 (.ref 455))] 49), #[]⟩
noncomputable def a12_517 (P : Params) : Obj := ⟨.none, none, (.fields ((.int 1 0) :: (.int 0 0) :: (.ref 20) :: (.int 6 0) :: (.int 0 0) :: (.ref 27) :: (.int 8 0) :: (.int 0 0) :: (.ref 34) :: (.int 11 0) :: (.int 0 0) :: (.ref 41) :: (.int 15 0) :: (.int 0 0) :: (.ref 61) :: (.int 17 0) :: (.int 0 0) :: (.ref 73) :: (.int 19 0) :: (.int 0 0) :: (.ref 85) :: (.int 24 0) :: (.int 0 0) :: (.ref 99) :: (.int 29 0) :: (.int 0 0) :: (.ref 107) :: (.int 36 0) :: (.int 0 0) :: (.ref 114) :: (.int 38 0) :: (.int 0 0) :: (.ref 121) :: (.int 40 0) :: (.int 0 0) :: (.ref 128) :: (.int 42 0) :: (.int 0 0) :: (.ref 135) :: (.int 46 0) :: (.int 0 0) :: (.ref 142) :: (.int 48 0) :: (.int 0 0) :: (.ref 149) :: (.int 54 0) :: (.int 0 0) :: (.ref 156) :: (.int 56 0) :: (.int 0 0) :: (.ref 163) :: (.int 58 0) :: (.int 0 0) :: (.ref 170) :: (.int 60 0) :: (.int 0 0) :: (.ref 177) :: (.int 74 0) :: (.int 0 0) :: (.ref 184) :: (.int 78 0) :: (.int 0 0) :: (.ref 192) :: (.int 81 0) :: (.int 0 0) :: (.ref 199) :: (.int 83 0) :: (.int 0 0) :: (.ref 206) :: (.int 86 0) :: (.int 0 0) :: (.ref 213) :: (.int 90 0) :: (.int 0 0) :: (.ref 220) :: (.int 97 0) :: (.int 0 0) :: (.ref 228) :: (.int 106 0) :: (.int 0 0) :: (.ref 256) :: (.int 108 0) :: (.int 0 0) :: (.ref 263) :: (.int 141 0) :: (.int 0 0) :: (.ref 303) :: (.int 143 0) :: (.int 0 0) :: (.ref 310) :: (.int 145 0) :: (.int 0 0) :: (.ref 317) :: (.int 167 0) :: (.int 0 0) :: (.ref 352) :: (.int 169 0) :: (.int 0 0) :: (.ref 359) :: (.int 176 0) :: (.int 0 0) :: (.ref 366) :: (.int 207 0) :: (.int 0 0) :: (.ref 402) :: [] : List _).toArray), #[]⟩
noncomputable def tree_618 (P : Params) : BT := (.node (PySem.W.boot_o_0 P) (.node (PySem.W.boot_o_1 P) (.node (a3 P) (.node (PySem.W.boot_o_7 P) (.node (a15 P) (.node (a31 P) (.node (a63 P) (.node (a127 P) (.node (a255 P) (lf (a511 P)) .nil) (lf (a383 P))) (.node (a191 P) (lf (a319 P)) (lf (a447 P)))) (.node (a95 P) (.node (a159 P) (.node (a287 P) (lf (a543 P)) .nil) (lf (a415 P))) (.node (a223 P) (lf (a351 P)) (lf (a479 P))))) (.node (a47 P) (.node (a79 P) (.node (a143 P) (.node (a271 P) (lf (a527 P)) .nil) (lf (a399 P))) (.node (a207 P) (lf (a335 P)) (lf (a463 P)))) (.node (a111 P) (.node (a175 P) (lf (a303 P)) (lf (a431 P))) (.node (a239 P) (lf (a367 P)) (lf (a495 P)))))) (.node (a23 P) (.node (a39 P) (.node (a71 P) (.node (a135 P) (.node (a263 P) (lf (a519 P)) .nil) (lf (a391 P))) (.node (a199 P) (lf (a327 P)) (lf (a455 P)))) (.node (a103 P) (.node (a167 P) (.node (a295 P) (lf (a551 P)) .nil) (lf (a423 P))) (.node (a231 P) (lf (a359 P)) (lf (a487 P))))) (.node (a55 P) (.node (a87 P) (.node (a151 P) (.node (a279 P) (lf (a535 P)) .nil) (lf (a407 P))) (.node (a215 P) (lf (a343 P)) (lf (a471 P)))) (.node (a119 P) (.node (a183 P) (lf (a311 P)) (lf (a439 P))) (.node (a247 P) (lf (a375 P)) (lf (a503 P))))))) (.node (a11 P) (.node (a19 P) (.node (a35 P) (.node (a67 P) (.node (a131 P) (.node (a259 P) (lf (a515 P)) .nil) (lf (a387 P))) (.node (a195 P) (lf (a323 P)) (lf (a451 P)))) (.node (a99 P) (.node (a163 P) (.node (a291 P) (lf (a547 P)) .nil) (lf (a419 P))) (.node (a227 P) (lf (a355 P)) (lf (a483 P))))) (.node (a51 P) (.node (a83 P) (.node (a147 P) (.node (a275 P) (lf (a531 P)) .nil) (lf (a403 P))) (.node (a211 P) (lf (a339 P)) (lf (a467 P)))) (.node (a115 P) (.node (a179 P) (lf (a307 P)) (lf (a435 P))) (.node (a243 P) (lf (a371 P)) (lf (a499 P)))))) (.node (a27 P) (.node (a43 P) (.node (a75 P) (.node (a139 P) (.node (a267 P) (lf (a523 P)) .nil) (lf (a395 P))) (.node (a203 P) (lf (a331 P)) (lf (a459 P)))) (.node (a107 P) (.node (a171 P) (.node (a299 P) (lf (a555 P)) .nil) (lf (a427 P))) (.node (a235 P) (lf (a363 P)) (lf (a491 P))))) (.node (a59 P) (.node (a91 P) (.node (a155 P) (.node (a283 P) (lf (a539 P)) .nil) (lf (a411 P))) (.node (a219 P) (lf (a347 P)) (lf (a475 P)))) (.node (a123 P) (.node (a187 P) (lf (a315 P)) (lf (a443 P))) (.node (a251 P) (lf (a379 P)) (lf (a507 P)))))))) (.node (PySem.W.boot_o_5 P) (.node (PySem.W.boot_o_9 P) (.node (a17 P) (.node (a33 P) (.node (a65 P) (.node (a129 P) (.node (a257 P) (lf (a513 P)) .nil) (lf (a385 P))) (.node (a193 P) (lf (a321 P)) (lf (a449 P)))) (.node (a97 P) (.node (a161 P) (.node (a289 P) (lf (a545 P)) .nil) (lf (a417 P))) (.node (a225 P) (lf (a353 P)) (lf (a481 P))))) (.node (a49 P) (.node (a81 P) (.node (a145 P) (.node (a273 P) (lf (a529 P)) .nil) (lf (a401 P))) (.node (a209 P) (lf (a337 P)) (lf (a465 P)))) (.node (a113 P) (.node (a177 P) (lf (a305 P)) (lf (a433 P))) (.node (a241 P) (lf (a369 P)) (lf (a497 P)))))) (.node (a25 P) (.node (a41 P) (.node (a73 P) (.node (a137 P) (.node (a265 P) (lf (a521 P)) .nil) (lf (a393 P))) (.node (a201 P) (lf (a329 P)) (lf (a457 P)))) (.node (a105 P) (.node (a169 P) (.node (a297 P) (lf (a553 P)) .nil) (lf (a425 P))) (.node (a233 P) (lf (a361 P)) (lf (a489 P))))) (.node (a57 P) (.node (a89 P) (.node (a153 P) (.node (a281 P) (lf (a537 P)) .nil) (lf (a409 P))) (.node (a217 P) (lf (a345 P)) (lf (a473 P)))) (.node (a121 P) (.node (a185 P) (lf (a313 P)) (lf (a441 P))) (.node (a249 P) (lf (a377 P)) (lf (a505 P))))))) (.node (a13 P) (.node (a21 P) (.node (a37 P) (.node (a69 P) (.node (a133 P) (.node (a261 P) (lf (a517 P)) .nil) (lf (a389 P))) (.node (a197 P) (lf (a325 P)) (lf (a453 P)))) (.node (a101 P) (.node (a165 P) (.node (a293 P) (lf (a549 P)) .nil) (lf (a421 P))) (.node (a229 P) (lf (a357 P)) (lf (a485 P))))) (.node (a53 P) (.node (a85 P) (.node (a149 P) (.node (a277 P) (lf (a533 P)) .nil) (lf (a405 P))) (.node (a213 P) (lf (a341 P)) (lf (a469 P)))) (.node (a117 P) (.node (a181 P) (lf (a309 P)) (lf (a437 P))) (.node (a245 P) (lf (a373 P)) (lf (a501 P)))))) (.node (a29 P) (.node (a45 P) (.node (a77 P) (.node (a141 P) (.node (a269 P) (lf (a525 P)) .nil) (lf (a397 P))) (.node (a205 P) (lf (a333 P)) (lf (a461 P)))) (.node (a109 P) (.node (a173 P) (lf (a301 P)) (lf (a429 P))) (.node (a237 P) (lf (a365 P)) (lf (a493 P))))) (.node (a61 P) (.node (a93 P) (.node (a157 P) (.node (a285 P) (lf (a541 P)) .nil) (lf (a413 P))) (.node (a221 P) (lf (a349 P)) (lf (a477 P)))) (.node (a125 P) (.node (a189 P) (lf (a317 P)) (lf (a445 P))) (.node (a253 P) (lf (a381 P)) (lf (a509 P))))))))) (.node (a2 P) (.node (PySem.W.boot_o_4 P) (.node (PySem.W.boot_o_8 P) (.node (a16 P) (.node (a32 P) (.node (a64 P) (.node (a128 P) (.node (a256 P) (lf (a512 P)) .nil) (lf (a384 P))) (.node (a192 P) (lf (a320 P)) (lf (a448 P)))) (.node (a96 P) (.node (a160 P) (.node (a288 P) (lf (a544 P)) .nil) (lf (a416 P))) (.node (a224 P) (lf (a352 P)) (lf (a480 P))))) (.node (a48 P) (.node (a80 P) (.node (a144 P) (.node (a272 P) (lf (a528 P)) .nil) (lf (a400 P))) (.node (a208 P) (lf (a336 P)) (lf (a464 P)))) (.node (a112 P) (.node (a176 P) (lf (a304 P)) (lf (a432 P))) (.node (a240 P) (lf (a368 P)) (lf (a496 P)))))) (.node (a24 P) (.node (a40 P) (.node (a72 P) (.node (a136 P) (.node (a264 P) (lf (a520 P)) .nil) (lf (a392 P))) (.node (a200 P) (lf (a328 P)) (lf (a456 P)))) (.node (a104 P) (.node (a168 P) (.node (a296 P) (lf (a552 P)) .nil) (lf (a424 P))) (.node (a232 P) (lf (a360 P)) (lf (a488 P))))) (.node (a56 P) (.node (a88 P) (.node (a152 P) (.node (a280 P) (lf (a536 P)) .nil) (lf (a408 P))) (.node (a216 P) (lf (a344 P)) (lf (a472 P)))) (.node (a120 P) (.node (a184 P) (lf (a312 P)) (lf (a440 P))) (.node (a248 P) (lf (a376 P)) (lf (a504 P))))))) (.node (a12 P) (.node (a20 P) (.node (a36 P) (.node (a68 P) (.node (a132 P) (.node (a260 P) (lf (a516 P)) .nil) (lf (a388 P))) (.node (a196 P) (lf (a324 P)) (lf (a452 P)))) (.node (a100 P) (.node (a164 P) (.node (a292 P) (lf (a548 P)) .nil) (lf (a420 P))) (.node (a228 P) (lf (a356 P)) (lf (a484 P))))) (.node (a52 P) (.node (a84 P) (.node (a148 P) (.node (a276 P) (lf (a532 P)) .nil) (lf (a404 P))) (.node (a212 P) (lf (a340 P)) (lf (a468 P)))) (.node (a116 P) (.node (a180 P) (lf (a308 P)) (lf (a436 P))) (.node (a244 P) (lf (a372 P)) (lf (a500 P)))))) (.node (a28 P) (.node (a44 P) (.node (a76 P) (.node (a140 P) (.node (a268 P) (lf (a524 P)) .nil) (lf (a396 P))) (.node (a204 P) (lf (a332 P)) (lf (a460 P)))) (.node (a108 P) (.node (a172 P) (.node (a300 P) (lf (a556 P)) .nil) (lf (a428 P))) (.node (a236 P) (lf (a364 P)) (lf (a492 P))))) (.node (a60 P) (.node (a92 P) (.node (a156 P) (.node (a284 P) (lf (a540 P)) .nil) (lf (a412 P))) (.node (a220 P) (lf (a348 P)) (lf (a476 P)))) (.node (a124 P) (.node (a188 P) (lf (a316 P)) (lf (a444 P))) (.node (a252 P) (lf (a380 P)) (lf (a508 P)))))))) (.node (PySem.W.boot_o_6 P) (.node (PySem.W.boot_o_10 P) (.node (a18 P) (.node (a34 P) (.node (a66 P) (.node (a130 P) (.node (a258 P) (lf (a514 P)) .nil) (lf (a386 P))) (.node (a194 P) (lf (a322 P)) (lf (a450 P)))) (.node (a98 P) (.node (a162 P) (.node (a290 P) (lf (a546 P)) .nil) (lf (a418 P))) (.node (a226 P) (lf (a354 P)) (lf (a482 P))))) (.node (a50 P) (.node (a82 P) (.node (a146 P) (.node (a274 P) (lf (a530 P)) .nil) (lf (a402 P))) (.node (a210 P) (lf (a338 P)) (lf (a466 P)))) (.node (a114 P) (.node (a178 P) (lf (a306 P)) (lf (a434 P))) (.node (a242 P) (lf (a370 P)) (lf (a498 P)))))) (.node (a26 P) (.node (a42 P) (.node (a74 P) (.node (a138 P) (.node (a266 P) (lf (a522 P)) .nil) (lf (a394 P))) (.node (a202 P) (lf (a330 P)) (lf (a458 P)))) (.node (a106 P) (.node (a170 P) (.node (a298 P) (lf (a554 P)) .nil) (lf (a426 P))) (.node (a234 P) (lf (a362 P)) (lf (a490 P))))) (.node (a58 P) (.node (a90 P) (.node (a154 P) (.node (a282 P) (lf (a538 P)) .nil) (lf (a410 P))) (.node (a218 P) (lf (a346 P)) (lf (a474 P)))) (.node (a122 P) (.node (a186 P) (lf (a314 P)) (lf (a442 P))) (.node (a250 P) (lf (a378 P)) (lf (a506 P))))))) (.node (a14 P) (.node (a22 P) (.node (a38 P) (.node (a70 P) (.node (a134 P) (.node (a262 P) (lf (a518 P)) .nil) (lf (a390 P))) (.node (a198 P) (lf (a326 P)) (lf (a454 P)))) (.node (a102 P) (.node (a166 P) (.node (a294 P) (lf (a550 P)) .nil) (lf (a422 P))) (.node (a230 P) (lf (a358 P)) (lf (a486 P))))) (.node (a54 P) (.node (a86 P) (.node (a150 P) (.node (a278 P) (lf (a534 P)) .nil) (lf (a406 P))) (.node (a214 P) (lf (a342 P)) (lf (a470 P)))) (.node (a118 P) (.node (a182 P) (lf (a310 P)) (lf (a438 P))) (.node (a246 P) (lf (a374 P)) (lf (a502 P)))))) (.node (a30 P) (.node (a46 P) (.node (a78 P) (.node (a142 P) (.node (a270 P) (lf (a526 P)) .nil) (lf (a398 P))) (.node (a206 P) (lf (a334 P)) (lf (a462 P)))) (.node (a110 P) (.node (a174 P) (lf (a302 P)) (lf (a430 P))) (.node (a238 P) (lf (a366 P)) (lf (a494 P))))) (.node (a62 P) (.node (a94 P) (.node (a158 P) (.node (a286 P) (lf (a542 P)) .nil) (lf (a414 P))) (.node (a222 P) (lf (a350 P)) (lf (a478 P)))) (.node (a126 P) (.node (a190 P) (lf (a318 P)) (lf (a446 P))) (.node (a254 P) (lf (a382 P)) (lf (a510 P))))))))))
noncomputable def heap_618 (P : Params) : Heap := ⟨⟨PySem.W.boot_o_0 P :: PySem.W.boot_o_1 P :: a2 P :: a3 P :: PySem.W.boot_o_4 P :: PySem.W.boot_o_5 P :: PySem.W.boot_o_6 P :: PySem.W.boot_o_7 P :: PySem.W.boot_o_8 P :: PySem.W.boot_o_9 P :: PySem.W.boot_o_10 P :: a11 P :: a12 P :: a13 P :: a14 P :: a15 P :: a16 P :: a17 P :: a18 P :: a19 P :: a20 P :: a21 P :: a22 P :: a23 P :: a24 P :: a25 P :: a26 P :: a27 P :: a28 P :: a29 P :: a30 P :: a31 P :: a32 P :: a33 P :: a34 P :: a35 P :: a36 P :: a37 P :: a38 P :: a39 P :: a40 P :: a41 P :: a42 P :: a43 P :: a44 P :: a45 P :: a46 P :: a47 P :: a48 P :: a49 P :: a50 P :: a51 P :: a52 P :: a53 P :: a54 P :: a55 P :: a56 P :: a57 P :: a58 P :: a59 P :: a60 P :: a61 P :: a62 P :: a63 P :: a64 P :: a65 P :: a66 P :: a67 P :: a68 P :: a69 P :: a70 P :: a71 P :: a72 P :: a73 P :: a74 P :: a75 P :: a76 P :: a77 P :: a78 P :: a79 P :: a80 P :: a81 P :: a82 P :: a83 P :: a84 P :: a85 P :: a86 P :: a87 P :: a88 P :: a89 P :: a90 P :: a91 P :: a92 P :: a93 P :: a94 P :: a95 P :: a96 P :: a97 P :: a98 P :: a99 P :: a100 P :: a101 P :: a102 P :: a103 P :: a104 P :: a105 P :: a106 P :: a107 P :: a108 P :: a109 P :: a110 P :: a111 P :: a112 P :: a113 P :: a114 P :: a115 P :: a116 P :: a117 P :: a118 P :: a119 P :: a120 P :: a121 P :: a122 P :: a123 P :: a124 P :: a125 P :: a126 P :: a127 P :: a128 P :: a129 P :: a130 P :: a131 P :: a132 P :: a133 P :: a134 P :: a135 P :: a136 P :: a137 P :: a138 P :: a139 P :: a140 P :: a141 P :: a142 P :: a143 P :: a144 P :: a145 P :: a146 P :: a147 P :: a148 P :: a149 P :: a150 P :: a151 P :: a152 P :: a153 P :: a154 P :: a155 P :: a156 P :: a157 P :: a158 P :: a159 P :: a160 P :: a161 P :: a162 P :: a163 P :: a164 P :: a165 P :: a166 P :: a167 P :: a168 P :: a169 P :: a170 P :: a171 P :: a172 P :: a173 P :: a174 P :: a175 P :: a176 P :: a177 P :: a178 P :: a179 P :: a180 P :: a181 P :: a182 P :: a183 P :: a184 P :: a185 P :: a186 P :: a187 P :: a188 P :: a189 P :: a190 P :: a191 P :: a192 P :: a193 P :: a194 P :: a195 P :: a196 P :: a197 P :: a198 P :: a199 P :: a200 P :: a201 P :: a202 P :: a203 P :: a204 P :: a205 P :: a206 P :: a207 P :: a208 P :: a209 P :: a210 P :: a211 P :: a212 P :: a213 P :: a214 P :: a215 P :: a216 P :: a217 P :: a218 P :: a219 P :: a220 P :: a221 P :: a222 P :: a223 P :: a224 P :: a225 P :: a226 P :: a227 P :: a228 P :: a229 P :: a230 P :: a231 P :: a232 P :: a233 P :: a234 P :: a235 P :: a236 P :: a237 P :: a238 P :: a239 P :: a240 P :: a241 P :: a242 P :: a243 P :: a244 P :: a245 P :: a246 P :: a247 P :: a248 P :: a249 P :: a250 P :: a251 P :: a252 P :: a253 P :: a254 P :: a255 P :: a256 P :: a257 P :: a258 P :: a259 P :: a260 P :: a261 P :: a262 P :: a263 P :: a264 P :: a265 P :: a266 P :: a267 P :: a268 P :: a269 P :: a270 P :: a271 P :: a272 P :: a273 P :: a274 P :: a275 P :: a276 P :: a277 P :: a278 P :: a279 P :: a280 P :: a281 P :: a282 P :: a283 P :: a284 P :: a285 P :: a286 P :: a287 P :: a288 P :: a289 P :: a290 P :: a291 P :: a292 P :: a293 P :: a294 P :: a295 P :: a296 P :: a297 P :: a298 P :: a299 P :: a300 P :: a301 P :: a302 P :: a303 P :: a304 P :: a305 P :: a306 P :: a307 P :: a308 P :: a309 P :: a310 P :: a311 P :: a312 P :: a313 P :: a314 P :: a315 P :: a316 P :: a317 P :: a318 P :: a319 P :: a320 P :: a321 P :: a322 P :: a323 P :: a324 P :: a325 P :: a326 P :: a327 P :: a328 P :: a329 P :: a330 P :: a331 P :: a332 P :: a333 P :: a334 P :: a335 P :: a336 P :: a337 P :: a338 P :: a339 P :: a340 P :: a341 P :: a342 P :: a343 P :: a344 P :: a345 P :: a346 P :: a347 P :: a348 P :: a349 P :: a350 P :: a351 P :: a352 P :: a353 P :: a354 P :: a355 P :: a356 P :: a357 P :: a358 P :: a359 P :: a360 P :: a361 P :: a362 P :: a363 P :: a364 P :: a365 P :: a366 P :: a367 P :: a368 P :: a369 P :: a370 P :: a371 P :: a372 P :: a373 P :: a374 P :: a375 P :: a376 P :: a377 P :: a378 P :: a379 P :: a380 P :: a381 P :: a382 P :: a383 P :: a384 P :: a385 P :: a386 P :: a387 P :: a388 P :: a389 P :: a390 P :: a391 P :: a392 P :: a393 P :: a394 P :: a395 P :: a396 P :: a397 P :: a398 P :: a399 P :: a400 P :: a401 P :: a402 P :: a403 P :: a404 P :: a405 P :: a406 P :: a407 P :: a408 P :: a409 P :: a410 P :: a411 P :: a412 P :: a413 P :: a414 P :: a415 P :: a416 P :: a417 P :: a418 P :: a419 P :: a420 P :: a421 P :: a422 P :: a423 P :: a424 P :: a425 P :: a426 P :: a427 P :: a428 P :: a429 P :: a430 P :: a431 P :: a432 P :: a433 P :: a434 P :: a435 P :: a436 P :: a437 P :: a438 P :: a439 P :: a440 P :: a441 P :: a442 P :: a443 P :: a444 P :: a445 P :: a446 P :: a447 P :: a448 P :: a449 P :: a450 P :: a451 P :: a452 P :: a453 P :: a454 P :: a455 P :: a456 P :: a457 P :: a458 P :: a459 P :: a460 P :: a461 P :: a462 P :: a463 P :: a464 P :: a465 P :: a466 P :: a467 P :: a468 P :: a469 P :: a470 P :: a471 P :: a472 P :: a473 P :: a474 P :: a475 P :: a476 P :: a477 P :: a478 P :: a479 P :: a480 P :: a481 P :: a482 P :: a483 P :: a484 P :: a485 P :: a486 P :: a487 P :: a488 P :: a489 P :: a490 P :: a491 P :: a492 P :: a493 P :: a494 P :: a495 P :: a496 P :: a497 P :: a498 P :: a499 P :: a500 P :: a501 P :: a502 P :: a503 P :: a504 P :: a505 P :: a506 P :: a507 P :: a508 P :: a509 P :: a510 P :: a511 P :: a512 P :: a513 P :: a514 P :: a515 P :: a516 P :: a517 P :: a518 P :: a519 P :: a520 P :: a521 P :: a522 P :: a523 P :: a524 P :: a525 P :: a526 P :: a527 P :: a528 P :: a529 P :: a530 P :: a531 P :: a532 P :: a533 P :: a534 P :: a535 P :: a536 P :: a537 P :: a538 P :: a539 P :: a540 P :: a541 P :: a542 P :: a543 P :: a544 P :: a545 P :: a546 P :: a547 P :: a548 P :: a549 P :: a550 P :: a551 P :: a552 P :: a553 P :: a554 P :: a555 P :: a556 P :: []⟩, {}⟩
noncomputable def tree_47 (P : Params) : BT := (.node (PySem.W.boot_o_0 P) (.node (PySem.W.boot_o_1 P) (.node (PySem.W.boot_o_3 P) (lf (PySem.W.boot_o_7 P)) (lf (a11 P))) (.node (PySem.W.boot_o_5 P) (lf (PySem.W.boot_o_9 P)) (lf (a13 P)))) (.node (PySem.W.boot_o_2 P) (.node (PySem.W.boot_o_4 P) (lf (PySem.W.boot_o_8 P)) (lf (a12_47 P))) (.node (PySem.W.boot_o_6 P) (lf (PySem.W.boot_o_10 P)) (lf (a14 P)))))
noncomputable def heap_47 (P : Params) : Heap := ⟨⟨PySem.W.boot_o_0 P :: PySem.W.boot_o_1 P :: PySem.W.boot_o_2 P :: PySem.W.boot_o_3 P :: PySem.W.boot_o_4 P :: PySem.W.boot_o_5 P :: PySem.W.boot_o_6 P :: PySem.W.boot_o_7 P :: PySem.W.boot_o_8 P :: PySem.W.boot_o_9 P :: PySem.W.boot_o_10 P :: a11 P :: a12_47 P :: a13 P :: a14 P :: []⟩, {}⟩
noncomputable def tree_168 (P : Params) : BT := (.node (PySem.W.boot_o_0 P) (.node (PySem.W.boot_o_1 P) (.node (a3_168 P) (.node (PySem.W.boot_o_7 P) (.node (a15 P) (.node (a31 P) (lf (a63 P)) (lf (a95 P))) (.node (a47 P) (lf (a79 P)) (lf (a111 P)))) (.node (a23 P) (.node (a39 P) (lf (a71 P)) (lf (a103 P))) (.node (a55 P) (lf (a87 P)) (lf (a119 P))))) (.node (a11 P) (.node (a19 P) (.node (a35 P) (lf (a67 P)) (lf (a99 P))) (.node (a51 P) (lf (a83 P)) (lf (a115 P)))) (.node (a27 P) (.node (a43 P) (lf (a75 P)) (lf (a107 P))) (.node (a59 P) (lf (a91 P)) .nil)))) (.node (PySem.W.boot_o_5 P) (.node (PySem.W.boot_o_9 P) (.node (a17 P) (.node (a33 P) (lf (a65 P)) (lf (a97 P))) (.node (a49 P) (lf (a81 P)) (lf (a113 P)))) (.node (a25 P) (.node (a41 P) (lf (a73 P)) (lf (a105 P))) (.node (a57 P) (lf (a89 P)) (lf (a121 P))))) (.node (a13 P) (.node (a21 P) (.node (a37 P) (lf (a69 P)) (lf (a101 P))) (.node (a53 P) (lf (a85 P)) (lf (a117 P)))) (.node (a29 P) (.node (a45 P) (lf (a77 P)) (lf (a109 P))) (.node (a61 P) (lf (a93 P)) .nil))))) (.node (a2 P) (.node (PySem.W.boot_o_4 P) (.node (PySem.W.boot_o_8 P) (.node (a16 P) (.node (a32 P) (lf (a64 P)) (lf (a96 P))) (.node (a48 P) (lf (a80 P)) (lf (a112 P)))) (.node (a24 P) (.node (a40 P) (lf (a72 P)) (lf (a104 P))) (.node (a56 P) (lf (a88 P)) (lf (a120 P))))) (.node (a12_168 P) (.node (a20 P) (.node (a36 P) (lf (a68 P)) (lf (a100 P))) (.node (a52 P) (lf (a84 P)) (lf (a116 P)))) (.node (a28 P) (.node (a44 P) (lf (a76 P)) (lf (a108 P))) (.node (a60 P) (lf (a92 P)) .nil)))) (.node (PySem.W.boot_o_6 P) (.node (PySem.W.boot_o_10 P) (.node (a18 P) (.node (a34 P) (lf (a66 P)) (lf (a98 P))) (.node (a50 P) (lf (a82 P)) (lf (a114 P)))) (.node (a26 P) (.node (a42 P) (lf (a74 P)) (lf (a106 P))) (.node (a58 P) (lf (a90 P)) (lf (a122 P))))) (.node (a14 P) (.node (a22 P) (.node (a38 P) (lf (a70 P)) (lf (a102 P))) (.node (a54 P) (lf (a86 P)) (lf (a118 P)))) (.node (a30 P) (.node (a46 P) (lf (a78 P)) (lf (a110 P))) (.node (a62 P) (lf (a94 P)) .nil))))))
noncomputable def tree_363 (P : Params) : BT := (.node (PySem.W.boot_o_0 P) (.node (PySem.W.boot_o_1 P) (.node (a3_363 P) (.node (PySem.W.boot_o_7 P) (.node (a15 P) (.node (a31 P) (.node (a63 P) (.node (a127 P) (lf (a255 P)) .nil) (lf (a191 P))) (.node (a95 P) (.node (a159 P) (lf (a287 P)) .nil) (lf (a223 P)))) (.node (a47 P) (.node (a79 P) (.node (a143 P) (lf (a271 P)) .nil) (lf (a207 P))) (.node (a111 P) (.node (a175 P) (lf (a303 P)) .nil) (lf (a239 P))))) (.node (a23 P) (.node (a39 P) (.node (a71 P) (.node (a135 P) (lf (a263 P)) .nil) (lf (a199 P))) (.node (a103 P) (.node (a167 P) (lf (a295 P)) .nil) (lf (a231 P)))) (.node (a55 P) (.node (a87 P) (.node (a151 P) (lf (a279 P)) .nil) (lf (a215 P))) (.node (a119 P) (.node (a183 P) (lf (a311 P)) .nil) (lf (a247 P)))))) (.node (a11 P) (.node (a19 P) (.node (a35 P) (.node (a67 P) (.node (a131 P) (lf (a259 P)) .nil) (lf (a195 P))) (.node (a99 P) (.node (a163 P) (lf (a291 P)) .nil) (lf (a227 P)))) (.node (a51 P) (.node (a83 P) (.node (a147 P) (lf (a275 P)) .nil) (lf (a211 P))) (.node (a115 P) (.node (a179 P) (lf (a307 P)) .nil) (lf (a243 P))))) (.node (a27 P) (.node (a43 P) (.node (a75 P) (.node (a139 P) (lf (a267 P)) .nil) (lf (a203 P))) (.node (a107 P) (.node (a171 P) (lf (a299 P)) .nil) (lf (a235 P)))) (.node (a59 P) (.node (a91 P) (.node (a155 P) (lf (a283 P)) .nil) (lf (a219 P))) (.node (a123 P) (lf (a187 P)) (lf (a251 P))))))) (.node (PySem.W.boot_o_5 P) (.node (PySem.W.boot_o_9 P) (.node (a17 P) (.node (a33 P) (.node (a65 P) (.node (a129 P) (lf (a257 P)) .nil) (lf (a193 P))) (.node (a97 P) (.node (a161 P) (lf (a289 P)) .nil) (lf (a225 P)))) (.node (a49 P) (.node (a81 P) (.node (a145 P) (lf (a273 P)) .nil) (lf (a209 P))) (.node (a113 P) (.node (a177 P) (lf (a305 P)) .nil) (lf (a241 P))))) (.node (a25 P) (.node (a41 P) (.node (a73 P) (.node (a137 P) (lf (a265 P)) .nil) (lf (a201 P))) (.node (a105 P) (.node (a169 P) (lf (a297 P)) .nil) (lf (a233 P)))) (.node (a57 P) (.node (a89 P) (.node (a153 P) (lf (a281 P)) .nil) (lf (a217 P))) (.node (a121 P) (lf (a185 P)) (lf (a249 P)))))) (.node (a13 P) (.node (a21 P) (.node (a37 P) (.node (a69 P) (.node (a133 P) (lf (a261 P)) .nil) (lf (a197 P))) (.node (a101 P) (.node (a165 P) (lf (a293 P)) .nil) (lf (a229 P)))) (.node (a53 P) (.node (a85 P) (.node (a149 P) (lf (a277 P)) .nil) (lf (a213 P))) (.node (a117 P) (.node (a181 P) (lf (a309 P)) .nil) (lf (a245 P))))) (.node (a29 P) (.node (a45 P) (.node (a77 P) (.node (a141 P) (lf (a269 P)) .nil) (lf (a205 P))) (.node (a109 P) (.node (a173 P) (lf (a301 P)) .nil) (lf (a237 P)))) (.node (a61 P) (.node (a93 P) (.node (a157 P) (lf (a285 P)) .nil) (lf (a221 P))) (.node (a125 P) (lf (a189 P)) (lf (a253 P)))))))) (.node (a2 P) (.node (PySem.W.boot_o_4 P) (.node (PySem.W.boot_o_8 P) (.node (a16 P) (.node (a32 P) (.node (a64 P) (.node (a128 P) (lf (a256 P)) .nil) (lf (a192 P))) (.node (a96 P) (.node (a160 P) (lf (a288 P)) .nil) (lf (a224 P)))) (.node (a48 P) (.node (a80 P) (.node (a144 P) (lf (a272 P)) .nil) (lf (a208 P))) (.node (a112 P) (.node (a176 P) (lf (a304 P)) .nil) (lf (a240 P))))) (.node (a24 P) (.node (a40 P) (.node (a72 P) (.node (a136 P) (lf (a264 P)) .nil) (lf (a200 P))) (.node (a104 P) (.node (a168 P) (lf (a296 P)) .nil) (lf (a232 P)))) (.node (a56 P) (.node (a88 P) (.node (a152 P) (lf (a280 P)) .nil) (lf (a216 P))) (.node (a120 P) (lf (a184 P)) (lf (a248 P)))))) (.node (a12_363 P) (.node (a20 P) (.node (a36 P) (.node (a68 P) (.node (a132 P) (lf (a260 P)) .nil) (lf (a196 P))) (.node (a100 P) (.node (a164 P) (lf (a292 P)) .nil) (lf (a228 P)))) (.node (a52 P) (.node (a84 P) (.node (a148 P) (lf (a276 P)) .nil) (lf (a212 P))) (.node (a116 P) (.node (a180 P) (lf (a308 P)) .nil) (lf (a244 P))))) (.node (a28 P) (.node (a44 P) (.node (a76 P) (.node (a140 P) (lf (a268 P)) .nil) (lf (a204 P))) (.node (a108 P) (.node (a172 P) (lf (a300 P)) .nil) (lf (a236 P)))) (.node (a60 P) (.node (a92 P) (.node (a156 P) (lf (a284 P)) .nil) (lf (a220 P))) (.node (a124 P) (lf (a188 P)) (lf (a252 P))))))) (.node (PySem.W.boot_o_6 P) (.node (PySem.W.boot_o_10 P) (.node (a18 P) (.node (a34 P) (.node (a66 P) (.node (a130 P) (lf (a258 P)) .nil) (lf (a194 P))) (.node (a98 P) (.node (a162 P) (lf (a290 P)) .nil) (lf (a226 P)))) (.node (a50 P) (.node (a82 P) (.node (a146 P) (lf (a274 P)) .nil) (lf (a210 P))) (.node (a114 P) (.node (a178 P) (lf (a306 P)) .nil) (lf (a242 P))))) (.node (a26 P) (.node (a42 P) (.node (a74 P) (.node (a138 P) (lf (a266 P)) .nil) (lf (a202 P))) (.node (a106 P) (.node (a170 P) (lf (a298 P)) .nil) (lf (a234 P)))) (.node (a58 P) (.node (a90 P) (.node (a154 P) (lf (a282 P)) .nil) (lf (a218 P))) (.node (a122 P) (lf (a186 P)) (lf (a250 P)))))) (.node (a14 P) (.node (a22 P) (.node (a38 P) (.node (a70 P) (.node (a134 P) (lf (a262 P)) .nil) (lf (a198 P))) (.node (a102 P) (.node (a166 P) (lf (a294 P)) .nil) (lf (a230 P)))) (.node (a54 P) (.node (a86 P) (.node (a150 P) (lf (a278 P)) .nil) (lf (a214 P))) (.node (a118 P) (.node (a182 P) (lf (a310 P)) .nil) (lf (a246 P))))) (.node (a30 P) (.node (a46 P) (.node (a78 P) (.node (a142 P) (lf (a270 P)) .nil) (lf (a206 P))) (.node (a110 P) (.node (a174 P) (lf (a302 P)) .nil) (lf (a238 P)))) (.node (a62 P) (.node (a94 P) (.node (a158 P) (lf (a286 P)) .nil) (lf (a222 P))) (.node (a126 P) (lf (a190 P)) (lf (a254 P)))))))))
noncomputable def tree_517 (P : Params) : BT := (.node (PySem.W.boot_o_0 P) (.node (PySem.W.boot_o_1 P) (.node (a3_517 P) (.node (PySem.W.boot_o_7 P) (.node (a15 P) (.node (a31 P) (.node (a63 P) (.node (a127 P) (lf (a255 P)) (lf (a383 P))) (.node (a191 P) (lf (a319 P)) (lf (a447 P)))) (.node (a95 P) (.node (a159 P) (lf (a287 P)) (lf (a415 P))) (.node (a223 P) (lf (a351 P)) .nil))) (.node (a47 P) (.node (a79 P) (.node (a143 P) (lf (a271 P)) (lf (a399 P))) (.node (a207 P) (lf (a335 P)) .nil)) (.node (a111 P) (.node (a175 P) (lf (a303 P)) (lf (a431 P))) (.node (a239 P) (lf (a367 P)) .nil)))) (.node (a23 P) (.node (a39 P) (.node (a71 P) (.node (a135 P) (lf (a263 P)) (lf (a391 P))) (.node (a199 P) (lf (a327 P)) (lf (a455 P)))) (.node (a103 P) (.node (a167 P) (lf (a295 P)) (lf (a423 P))) (.node (a231 P) (lf (a359 P)) .nil))) (.node (a55 P) (.node (a87 P) (.node (a151 P) (lf (a279 P)) (lf (a407 P))) (.node (a215 P) (lf (a343 P)) .nil)) (.node (a119 P) (.node (a183 P) (lf (a311 P)) (lf (a439 P))) (.node (a247 P) (lf (a375 P)) .nil))))) (.node (a11 P) (.node (a19 P) (.node (a35 P) (.node (a67 P) (.node (a131 P) (lf (a259 P)) (lf (a387 P))) (.node (a195 P) (lf (a323 P)) (lf (a451 P)))) (.node (a99 P) (.node (a163 P) (lf (a291 P)) (lf (a419 P))) (.node (a227 P) (lf (a355 P)) .nil))) (.node (a51 P) (.node (a83 P) (.node (a147 P) (lf (a275 P)) (lf (a403 P))) (.node (a211 P) (lf (a339 P)) .nil)) (.node (a115 P) (.node (a179 P) (lf (a307 P)) (lf (a435 P))) (.node (a243 P) (lf (a371 P)) .nil)))) (.node (a27 P) (.node (a43 P) (.node (a75 P) (.node (a139 P) (lf (a267 P)) (lf (a395 P))) (.node (a203 P) (lf (a331 P)) (lf (a459 P)))) (.node (a107 P) (.node (a171 P) (lf (a299 P)) (lf (a427 P))) (.node (a235 P) (lf (a363 P)) .nil))) (.node (a59 P) (.node (a91 P) (.node (a155 P) (lf (a283 P)) (lf (a411 P))) (.node (a219 P) (lf (a347 P)) .nil)) (.node (a123 P) (.node (a187 P) (lf (a315 P)) (lf (a443 P))) (.node (a251 P) (lf (a379 P)) .nil)))))) (.node (PySem.W.boot_o_5 P) (.node (PySem.W.boot_o_9 P) (.node (a17 P) (.node (a33 P) (.node (a65 P) (.node (a129 P) (lf (a257 P)) (lf (a385 P))) (.node (a193 P) (lf (a321 P)) (lf (a449 P)))) (.node (a97 P) (.node (a161 P) (lf (a289 P)) (lf (a417 P))) (.node (a225 P) (lf (a353 P)) .nil))) (.node (a49 P) (.node (a81 P) (.node (a145 P) (lf (a273 P)) (lf (a401 P))) (.node (a209 P) (lf (a337 P)) .nil)) (.node (a113 P) (.node (a177 P) (lf (a305 P)) (lf (a433 P))) (.node (a241 P) (lf (a369 P)) .nil)))) (.node (a25 P) (.node (a41 P) (.node (a73 P) (.node (a137 P) (lf (a265 P)) (lf (a393 P))) (.node (a201 P) (lf (a329 P)) (lf (a457 P)))) (.node (a105 P) (.node (a169 P) (lf (a297 P)) (lf (a425 P))) (.node (a233 P) (lf (a361 P)) .nil))) (.node (a57 P) (.node (a89 P) (.node (a153 P) (lf (a281 P)) (lf (a409 P))) (.node (a217 P) (lf (a345 P)) .nil)) (.node (a121 P) (.node (a185 P) (lf (a313 P)) (lf (a441 P))) (.node (a249 P) (lf (a377 P)) .nil))))) (.node (a13 P) (.node (a21 P) (.node (a37 P) (.node (a69 P) (.node (a133 P) (lf (a261 P)) (lf (a389 P))) (.node (a197 P) (lf (a325 P)) (lf (a453 P)))) (.node (a101 P) (.node (a165 P) (lf (a293 P)) (lf (a421 P))) (.node (a229 P) (lf (a357 P)) .nil))) (.node (a53 P) (.node (a85 P) (.node (a149 P) (lf (a277 P)) (lf (a405 P))) (.node (a213 P) (lf (a341 P)) .nil)) (.node (a117 P) (.node (a181 P) (lf (a309 P)) (lf (a437 P))) (.node (a245 P) (lf (a373 P)) .nil)))) (.node (a29 P) (.node (a45 P) (.node (a77 P) (.node (a141 P) (lf (a269 P)) (lf (a397 P))) (.node (a205 P) (lf (a333 P)) .nil)) (.node (a109 P) (.node (a173 P) (lf (a301 P)) (lf (a429 P))) (.node (a237 P) (lf (a365 P)) .nil))) (.node (a61 P) (.node (a93 P) (.node (a157 P) (lf (a285 P)) (lf (a413 P))) (.node (a221 P) (lf (a349 P)) .nil)) (.node (a125 P) (.node (a189 P) (lf (a317 P)) (lf (a445 P))) (.node (a253 P) (lf (a381 P)) .nil))))))) (.node (a2 P) (.node (PySem.W.boot_o_4 P) (.node (PySem.W.boot_o_8 P) (.node (a16 P) (.node (a32 P) (.node (a64 P) (.node (a128 P) (lf (a256 P)) (lf (a384 P))) (.node (a192 P) (lf (a320 P)) (lf (a448 P)))) (.node (a96 P) (.node (a160 P) (lf (a288 P)) (lf (a416 P))) (.node (a224 P) (lf (a352 P)) .nil))) (.node (a48 P) (.node (a80 P) (.node (a144 P) (lf (a272 P)) (lf (a400 P))) (.node (a208 P) (lf (a336 P)) .nil)) (.node (a112 P) (.node (a176 P) (lf (a304 P)) (lf (a432 P))) (.node (a240 P) (lf (a368 P)) .nil)))) (.node (a24 P) (.node (a40 P) (.node (a72 P) (.node (a136 P) (lf (a264 P)) (lf (a392 P))) (.node (a200 P) (lf (a328 P)) (lf (a456 P)))) (.node (a104 P) (.node (a168 P) (lf (a296 P)) (lf (a424 P))) (.node (a232 P) (lf (a360 P)) .nil))) (.node (a56 P) (.node (a88 P) (.node (a152 P) (lf (a280 P)) (lf (a408 P))) (.node (a216 P) (lf (a344 P)) .nil)) (.node (a120 P) (.node (a184 P) (lf (a312 P)) (lf (a440 P))) (.node (a248 P) (lf (a376 P)) .nil))))) (.node (a12_517 P) (.node (a20 P) (.node (a36 P) (.node (a68 P) (.node (a132 P) (lf (a260 P)) (lf (a388 P))) (.node (a196 P) (lf (a324 P)) (lf (a452 P)))) (.node (a100 P) (.node (a164 P) (lf (a292 P)) (lf (a420 P))) (.node (a228 P) (lf (a356 P)) .nil))) (.node (a52 P) (.node (a84 P) (.node (a148 P) (lf (a276 P)) (lf (a404 P))) (.node (a212 P) (lf (a340 P)) .nil)) (.node (a116 P) (.node (a180 P) (lf (a308 P)) (lf (a436 P))) (.node (a244 P) (lf (a372 P)) .nil)))) (.node (a28 P) (.node (a44 P) (.node (a76 P) (.node (a140 P) (lf (a268 P)) (lf (a396 P))) (.node (a204 P) (lf (a332 P)) .nil)) (.node (a108 P) (.node (a172 P) (lf (a300 P)) (lf (a428 P))) (.node (a236 P) (lf (a364 P)) .nil))) (.node (a60 P) (.node (a92 P) (.node (a156 P) (lf (a284 P)) (lf (a412 P))) (.node (a220 P) (lf (a348 P)) .nil)) (.node (a124 P) (.node (a188 P) (lf (a316 P)) (lf (a444 P))) (.node (a252 P) (lf (a380 P)) .nil)))))) (.node (PySem.W.boot_o_6 P) (.node (PySem.W.boot_o_10 P) (.node (a18 P) (.node (a34 P) (.node (a66 P) (.node (a130 P) (lf (a258 P)) (lf (a386 P))) (.node (a194 P) (lf (a322 P)) (lf (a450 P)))) (.node (a98 P) (.node (a162 P) (lf (a290 P)) (lf (a418 P))) (.node (a226 P) (lf (a354 P)) .nil))) (.node (a50 P) (.node (a82 P) (.node (a146 P) (lf (a274 P)) (lf (a402 P))) (.node (a210 P) (lf (a338 P)) .nil)) (.node (a114 P) (.node (a178 P) (lf (a306 P)) (lf (a434 P))) (.node (a242 P) (lf (a370 P)) .nil)))) (.node (a26 P) (.node (a42 P) (.node (a74 P) (.node (a138 P) (lf (a266 P)) (lf (a394 P))) (.node (a202 P) (lf (a330 P)) (lf (a458 P)))) (.node (a106 P) (.node (a170 P) (lf (a298 P)) (lf (a426 P))) (.node (a234 P) (lf (a362 P)) .nil))) (.node (a58 P) (.node (a90 P) (.node (a154 P) (lf (a282 P)) (lf (a410 P))) (.node (a218 P) (lf (a346 P)) .nil)) (.node (a122 P) (.node (a186 P) (lf (a314 P)) (lf (a442 P))) (.node (a250 P) (lf (a378 P)) .nil))))) (.node (a14 P) (.node (a22 P) (.node (a38 P) (.node (a70 P) (.node (a134 P) (lf (a262 P)) (lf (a390 P))) (.node (a198 P) (lf (a326 P)) (lf (a454 P)))) (.node (a102 P) (.node (a166 P) (lf (a294 P)) (lf (a422 P))) (.node (a230 P) (lf (a358 P)) .nil))) (.node (a54 P) (.node (a86 P) (.node (a150 P) (lf (a278 P)) (lf (a406 P))) (.node (a214 P) (lf (a342 P)) .nil)) (.node (a118 P) (.node (a182 P) (lf (a310 P)) (lf (a438 P))) (.node (a246 P) (lf (a374 P)) .nil)))) (.node (a30 P) (.node (a46 P) (.node (a78 P) (.node (a142 P) (lf (a270 P)) (lf (a398 P))) (.node (a206 P) (lf (a334 P)) .nil)) (.node (a110 P) (.node (a174 P) (lf (a302 P)) (lf (a430 P))) (.node (a238 P) (lf (a366 P)) .nil))) (.node (a62 P) (.node (a94 P) (.node (a158 P) (lf (a286 P)) (lf (a414 P))) (.node (a222 P) (lf (a350 P)) .nil)) (.node (a126 P) (.node (a190 P) (lf (a318 P)) (lf (a446 P))) (.node (a254 P) (lf (a382 P)) .nil))))))))
noncomputable def hd.heap_39 (P : Params) : Frag := (nat_lit 2, a2 P) :: (nat_lit 3, a3 P) :: (nat_lit 15, a15 P) :: (nat_lit 17, a17 P) :: (nat_lit 18, a18 P) :: (nat_lit 20, a20 P) :: (nat_lit 21, a21 P) :: (nat_lit 22, a22 P) :: (nat_lit 24, a24 P) :: (nat_lit 25, a25 P) :: (nat_lit 27, a27 P) :: (nat_lit 28, a28 P) :: (nat_lit 29, a29 P) :: (nat_lit 31, a31 P) :: (nat_lit 32, a32 P) :: (nat_lit 34, a34 P) :: (nat_lit 35, a35 P) :: (nat_lit 36, a36 P) :: (nat_lit 43, a43 P) :: (nat_lit 45, a45 P) :: (nat_lit 46, a46 P) :: (nat_lit 48, a48 P) :: (nat_lit 49, a49 P) :: (nat_lit 50, a50 P) :: (nat_lit 51, a51 P) :: (nat_lit 52, a52 P) :: (nat_lit 53, a53 P) :: (nat_lit 56, a56 P) :: (nat_lit 63, a63 P) :: (nat_lit 64, a64 P) :: (nat_lit 65, a65 P) :: (nat_lit 68, a68 P) :: (nat_lit 75, a75 P) :: (nat_lit 76, a76 P) :: (nat_lit 77, a77 P) :: (nat_lit 80, a80 P) :: (nat_lit 87, a87 P) :: (nat_lit 88, a88 P) :: (nat_lit 89, a89 P) :: (nat_lit 92, a92 P) :: (nat_lit 93, a93 P) :: (nat_lit 94, a94 P) :: (nat_lit 96, a96 P) :: (nat_lit 97, a97 P) :: (nat_lit 99, a99 P) :: (nat_lit 100, a100 P) :: (nat_lit 101, a101 P) :: (nat_lit 102, a102 P) :: (nat_lit 104, a104 P) :: (nat_lit 105, a105 P) :: (nat_lit 107, a107 P) :: (nat_lit 108, a108 P) :: (nat_lit 109, a109 P) :: (nat_lit 111, a111 P) :: (nat_lit 112, a112 P) :: (nat_lit 114, a114 P) :: (nat_lit 115, a115 P) :: (nat_lit 116, a116 P) :: (nat_lit 118, a118 P) :: (nat_lit 119, a119 P) :: (nat_lit 121, a121 P) :: (nat_lit 122, a122 P) :: (nat_lit 123, a123 P) :: (nat_lit 125, a125 P) :: (nat_lit 126, a126 P) :: (nat_lit 128, a128 P) :: (nat_lit 129, a129 P) :: (nat_lit 130, a130 P) :: (nat_lit 132, a132 P) :: (nat_lit 133, a133 P) :: (nat_lit 135, a135 P) :: (nat_lit 136, a136 P) :: (nat_lit 137, a137 P) :: (nat_lit 139, a139 P) :: (nat_lit 140, a140 P) :: (nat_lit 142, a142 P) :: (nat_lit 143, a143 P) :: (nat_lit 144, a144 P) :: (nat_lit 146, a146 P) :: (nat_lit 147, a147 P) :: (nat_lit 149, a149 P) :: (nat_lit 150, a150 P) :: (nat_lit 151, a151 P) :: (nat_lit 153, a153 P) :: (nat_lit 154, a154 P) :: (nat_lit 156, a156 P) :: (nat_lit 157, a157 P) :: (nat_lit 158, a158 P) :: (nat_lit 160, a160 P) :: (nat_lit 161, a161 P) :: (nat_lit 163, a163 P) :: (nat_lit 164, a164 P) :: (nat_lit 165, a165 P) :: (nat_lit 167, a167 P) :: (nat_lit 168, a168 P) :: (nat_lit 170, a170 P) :: (nat_lit 171, a171 P) :: (nat_lit 172, a172 P) :: (nat_lit 174, a174 P) :: (nat_lit 175, a175 P) :: (nat_lit 177, a177 P) :: (nat_lit 178, a178 P) :: (nat_lit 179, a179 P) :: (nat_lit 181, a181 P) :: (nat_lit 182, a182 P) :: (nat_lit 184, a184 P) :: (nat_lit 185, a185 P) :: (nat_lit 186, a186 P) :: (nat_lit 187, a187 P) :: (nat_lit 189, a189 P) :: (nat_lit 190, a190 P) :: (nat_lit 192, a192 P) :: (nat_lit 193, a193 P) :: (nat_lit 194, a194 P) :: (nat_lit 196, a196 P) :: (nat_lit 197, a197 P) :: (nat_lit 199, a199 P) :: (nat_lit 200, a200 P) :: (nat_lit 201, a201 P) :: (nat_lit 203, a203 P) :: (nat_lit 204, a204 P) :: (nat_lit 206, a206 P) :: (nat_lit 207, a207 P) :: (nat_lit 208, a208 P) :: (nat_lit 210, a210 P) :: (nat_lit 211, a211 P) :: (nat_lit 213, a213 P) :: (nat_lit 214, a214 P) :: (nat_lit 215, a215 P) :: (nat_lit 217, a217 P) :: (nat_lit 218, a218 P) :: (nat_lit 220, a220 P) :: (nat_lit 221, a221 P) :: (nat_lit 222, a222 P) :: (nat_lit 230, a230 P) :: (nat_lit 232, a232 P) :: (nat_lit 233, a233 P) :: (nat_lit 235, a235 P) :: (nat_lit 236, a236 P) :: (nat_lit 237, a237 P) :: (nat_lit 239, a239 P) :: (nat_lit 240, a240 P) :: (nat_lit 242, a242 P) :: (nat_lit 243, a243 P) :: (nat_lit 244, a244 P) :: (nat_lit 245, a245 P) :: (nat_lit 246, a246 P) :: (nat_lit 247, a247 P) :: (nat_lit 248, a248 P) :: (nat_lit 251, a251 P) :: (nat_lit 253, a253 P) :: (nat_lit 254, a254 P) :: (nat_lit 256, a256 P) :: (nat_lit 257, a257 P) :: (nat_lit 265, a265 P) :: (nat_lit 267, a267 P) :: (nat_lit 268, a268 P) :: (nat_lit 270, a270 P) :: (nat_lit 271, a271 P) :: (nat_lit 272, a272 P) :: (nat_lit 274, a274 P) :: (nat_lit 275, a275 P) :: (nat_lit 277, a277 P) :: (nat_lit 278, a278 P) :: (nat_lit 279, a279 P) :: (nat_lit 281, a281 P) :: (nat_lit 282, a282 P) :: (nat_lit 284, a284 P) :: (nat_lit 285, a285 P) :: (nat_lit 286, a286 P) :: (nat_lit 289, a289 P) :: (nat_lit 290, a290 P) :: (nat_lit 291, a291 P) :: (nat_lit 292, a292 P) :: (nat_lit 293, a293 P) :: (nat_lit 294, a294 P) :: (nat_lit 295, a295 P) :: (nat_lit 298, a298 P) :: (nat_lit 300, a300 P) :: (nat_lit 301, a301 P) :: (nat_lit 303, a303 P) :: (nat_lit 304, a304 P) :: (nat_lit 305, a305 P) :: (nat_lit 307, a307 P) :: (nat_lit 308, a308 P) :: (nat_lit 310, a310 P) :: (nat_lit 311, a311 P) :: (nat_lit 319, a319 P) :: (nat_lit 321, a321 P) :: (nat_lit 322, a322 P) :: (nat_lit 324, a324 P) :: (nat_lit 325, a325 P) :: (nat_lit 326, a326 P) :: (nat_lit 328, a328 P) :: (nat_lit 329, a329 P) :: (nat_lit 331, a331 P) :: (nat_lit 332, a332 P) :: (nat_lit 333, a333 P) :: (nat_lit 335, a335 P) :: (nat_lit 336, a336 P) :: (nat_lit 338, a338 P) :: (nat_lit 339, a339 P) :: (nat_lit 340, a340 P) :: (nat_lit 341, a341 P) :: (nat_lit 342, a342 P) :: (nat_lit 343, a343 P) :: (nat_lit 344, a344 P) :: (nat_lit 347, a347 P) :: (nat_lit 349, a349 P) :: (nat_lit 350, a350 P) :: (nat_lit 352, a352 P) :: (nat_lit 353, a353 P) :: (nat_lit 354, a354 P) :: (nat_lit 356, a356 P) :: (nat_lit 357, a357 P) :: (nat_lit 359, a359 P) :: (nat_lit 360, a360 P) :: (nat_lit 368, a368 P) :: (nat_lit 369, a369 P) :: (nat_lit 371, a371 P) :: (nat_lit 372, a372 P) :: (nat_lit 374, a374 P) :: (nat_lit 375, a375 P) :: (nat_lit 376, a376 P) :: (nat_lit 378, a378 P) :: (nat_lit 379, a379 P) :: (nat_lit 381, a381 P) :: (nat_lit 382, a382 P) :: (nat_lit 383, a383 P) :: (nat_lit 385, a385 P) :: (nat_lit 386, a386 P) :: (nat_lit 388, a388 P) :: (nat_lit 389, a389 P) :: (nat_lit 390, a390 P) :: (nat_lit 391, a391 P) :: (nat_lit 392, a392 P) :: (nat_lit 393, a393 P) :: (nat_lit 394, a394 P) :: (nat_lit 404, a404 P) :: (nat_lit 406, a406 P) :: (nat_lit 407, a407 P) :: (nat_lit 409, a409 P) :: (nat_lit 410, a410 P) :: (nat_lit 411, a411 P) :: (nat_lit 413, a413 P) :: (nat_lit 414, a414 P) :: (nat_lit 416, a416 P) :: (nat_lit 417, a417 P) :: (nat_lit 418, a418 P) :: (nat_lit 420, a420 P) :: (nat_lit 421, a421 P) :: (nat_lit 423, a423 P) :: (nat_lit 424, a424 P) :: (nat_lit 425, a425 P) :: (nat_lit 427, a427 P) :: (nat_lit 428, a428 P) :: (nat_lit 430, a430 P) :: (nat_lit 431, a431 P) :: (nat_lit 432, a432 P) :: (nat_lit 434, a434 P) :: (nat_lit 435, a435 P) :: (nat_lit 437, a437 P) :: (nat_lit 438, a438 P) :: (nat_lit 439, a439 P) :: (nat_lit 441, a441 P) :: (nat_lit 442, a442 P) :: (nat_lit 444, a444 P) :: (nat_lit 445, a445 P) :: (nat_lit 446, a446 P) :: (nat_lit 448, a448 P) :: (nat_lit 449, a449 P) :: (nat_lit 451, a451 P) :: (nat_lit 452, a452 P) :: (nat_lit 453, a453 P) :: (nat_lit 454, a454 P) :: (nat_lit 455, a455 P) :: (nat_lit 456, a456 P) :: (nat_lit 457, a457 P) :: (nat_lit 460, a460 P) :: (nat_lit 462, a462 P) :: (nat_lit 463, a463 P) :: (nat_lit 465, a465 P) :: (nat_lit 466, a466 P) :: (nat_lit 467, a467 P) :: (nat_lit 469, a469 P) :: (nat_lit 470, a470 P) :: (nat_lit 472, a472 P) :: (nat_lit 473, a473 P) :: (nat_lit 474, a474 P) :: (nat_lit 476, a476 P) :: (nat_lit 477, a477 P) :: (nat_lit 479, a479 P) :: (nat_lit 480, a480 P) :: (nat_lit 481, a481 P) :: (nat_lit 483, a483 P) :: (nat_lit 484, a484 P) :: (nat_lit 486, a486 P) :: (nat_lit 487, a487 P) :: (nat_lit 488, a488 P) :: (nat_lit 491, a491 P) :: (nat_lit 492, a492 P) :: (nat_lit 493, a493 P) :: (nat_lit 495, a495 P) :: (nat_lit 496, a496 P) :: (nat_lit 498, a498 P) :: (nat_lit 499, a499 P) :: (nat_lit 500, a500 P) :: (nat_lit 502, a502 P) :: (nat_lit 503, a503 P) :: (nat_lit 505, a505 P) :: (nat_lit 506, a506 P) :: (nat_lit 507, a507 P) :: (nat_lit 510, a510 P) :: (nat_lit 511, a511 P) :: (nat_lit 512, a512 P) :: (nat_lit 515, a515 P) :: (nat_lit 516, a516 P) :: (nat_lit 517, a517 P) :: (nat_lit 519, a519 P) :: (nat_lit 520, a520 P) :: (nat_lit 522, a522 P) :: (nat_lit 523, a523 P) :: (nat_lit 524, a524 P) :: (nat_lit 526, a526 P) :: (nat_lit 527, a527 P) :: (nat_lit 529, a529 P) :: (nat_lit 530, a530 P) :: (nat_lit 531, a531 P) :: (nat_lit 533, a533 P) :: (nat_lit 534, a534 P) :: (nat_lit 536, a536 P) :: (nat_lit 537, a537 P) :: (nat_lit 538, a538 P) :: (nat_lit 540, a540 P) :: (nat_lit 541, a541 P) :: (nat_lit 543, a543 P) :: (nat_lit 544, a544 P) :: (nat_lit 545, a545 P) :: (nat_lit 547, a547 P) :: (nat_lit 548, a548 P) :: (nat_lit 550, a550 P) :: (nat_lit 551, a551 P) :: (nat_lit 552, a552 P) :: (nat_lit 555, a555 P) :: (nat_lit 556, a556 P) :: []
noncomputable def kAs : List Addr := nat_lit 2 :: nat_lit 3 :: nat_lit 15 :: nat_lit 17 :: nat_lit 18 :: nat_lit 20 :: nat_lit 21 :: nat_lit 22 :: nat_lit 24 :: nat_lit 25 :: nat_lit 27 :: nat_lit 28 :: nat_lit 29 :: nat_lit 31 :: nat_lit 32 :: nat_lit 34 :: nat_lit 35 :: nat_lit 36 :: nat_lit 43 :: nat_lit 45 :: nat_lit 46 :: nat_lit 48 :: nat_lit 49 :: nat_lit 50 :: nat_lit 51 :: nat_lit 52 :: nat_lit 53 :: nat_lit 56 :: nat_lit 63 :: nat_lit 64 :: nat_lit 65 :: nat_lit 68 :: nat_lit 75 :: nat_lit 76 :: nat_lit 77 :: nat_lit 80 :: nat_lit 87 :: nat_lit 88 :: nat_lit 89 :: nat_lit 92 :: nat_lit 93 :: nat_lit 94 :: nat_lit 96 :: nat_lit 97 :: nat_lit 99 :: nat_lit 100 :: nat_lit 101 :: nat_lit 102 :: nat_lit 104 :: nat_lit 105 :: nat_lit 107 :: nat_lit 108 :: nat_lit 109 :: nat_lit 111 :: nat_lit 112 :: nat_lit 114 :: nat_lit 115 :: nat_lit 116 :: nat_lit 118 :: nat_lit 119 :: nat_lit 121 :: nat_lit 122 :: nat_lit 123 :: nat_lit 125 :: nat_lit 126 :: nat_lit 128 :: nat_lit 129 :: nat_lit 130 :: nat_lit 132 :: nat_lit 133 :: nat_lit 135 :: nat_lit 136 :: nat_lit 137 :: nat_lit 139 :: nat_lit 140 :: nat_lit 142 :: nat_lit 143 :: nat_lit 144 :: nat_lit 146 :: nat_lit 147 :: nat_lit 149 :: nat_lit 150 :: nat_lit 151 :: nat_lit 153 :: nat_lit 154 :: nat_lit 156 :: nat_lit 157 :: nat_lit 158 :: nat_lit 160 :: nat_lit 161 :: nat_lit 163 :: nat_lit 164 :: nat_lit 165 :: nat_lit 167 :: nat_lit 168 :: nat_lit 170 :: nat_lit 171 :: nat_lit 172 :: nat_lit 174 :: nat_lit 175 :: nat_lit 177 :: nat_lit 178 :: nat_lit 179 :: nat_lit 181 :: nat_lit 182 :: nat_lit 184 :: nat_lit 185 :: nat_lit 186 :: nat_lit 187 :: nat_lit 189 :: nat_lit 190 :: nat_lit 192 :: nat_lit 193 :: nat_lit 194 :: nat_lit 196 :: nat_lit 197 :: nat_lit 199 :: nat_lit 200 :: nat_lit 201 :: nat_lit 203 :: nat_lit 204 :: nat_lit 206 :: nat_lit 207 :: nat_lit 208 :: nat_lit 210 :: nat_lit 211 :: nat_lit 213 :: nat_lit 214 :: nat_lit 215 :: nat_lit 217 :: nat_lit 218 :: nat_lit 220 :: nat_lit 221 :: nat_lit 222 :: nat_lit 230 :: nat_lit 232 :: nat_lit 233 :: nat_lit 235 :: nat_lit 236 :: nat_lit 237 :: nat_lit 239 :: nat_lit 240 :: nat_lit 242 :: nat_lit 243 :: nat_lit 244 :: nat_lit 245 :: nat_lit 246 :: nat_lit 247 :: nat_lit 248 :: nat_lit 251 :: nat_lit 253 :: nat_lit 254 :: nat_lit 256 :: nat_lit 257 :: nat_lit 265 :: nat_lit 267 :: nat_lit 268 :: nat_lit 270 :: nat_lit 271 :: nat_lit 272 :: nat_lit 274 :: nat_lit 275 :: nat_lit 277 :: nat_lit 278 :: nat_lit 279 :: nat_lit 281 :: nat_lit 282 :: nat_lit 284 :: nat_lit 285 :: nat_lit 286 :: nat_lit 289 :: nat_lit 290 :: nat_lit 291 :: nat_lit 292 :: nat_lit 293 :: nat_lit 294 :: nat_lit 295 :: nat_lit 298 :: nat_lit 300 :: nat_lit 301 :: nat_lit 303 :: nat_lit 304 :: nat_lit 305 :: nat_lit 307 :: nat_lit 308 :: nat_lit 310 :: nat_lit 311 :: nat_lit 319 :: nat_lit 321 :: nat_lit 322 :: nat_lit 324 :: nat_lit 325 :: nat_lit 326 :: nat_lit 328 :: nat_lit 329 :: nat_lit 331 :: nat_lit 332 :: nat_lit 333 :: nat_lit 335 :: nat_lit 336 :: nat_lit 338 :: nat_lit 339 :: nat_lit 340 :: nat_lit 341 :: nat_lit 342 :: nat_lit 343 :: nat_lit 344 :: nat_lit 347 :: nat_lit 349 :: nat_lit 350 :: nat_lit 352 :: nat_lit 353 :: nat_lit 354 :: nat_lit 356 :: nat_lit 357 :: nat_lit 359 :: nat_lit 360 :: nat_lit 368 :: nat_lit 369 :: nat_lit 371 :: nat_lit 372 :: nat_lit 374 :: nat_lit 375 :: nat_lit 376 :: nat_lit 378 :: nat_lit 379 :: nat_lit 381 :: nat_lit 382 :: nat_lit 383 :: nat_lit 385 :: nat_lit 386 :: nat_lit 388 :: nat_lit 389 :: nat_lit 390 :: nat_lit 391 :: nat_lit 392 :: nat_lit 393 :: nat_lit 394 :: nat_lit 404 :: nat_lit 406 :: nat_lit 407 :: nat_lit 409 :: nat_lit 410 :: nat_lit 411 :: nat_lit 413 :: nat_lit 414 :: nat_lit 416 :: nat_lit 417 :: nat_lit 418 :: nat_lit 420 :: nat_lit 421 :: nat_lit 423 :: nat_lit 424 :: nat_lit 425 :: nat_lit 427 :: nat_lit 428 :: nat_lit 430 :: nat_lit 431 :: nat_lit 432 :: nat_lit 434 :: nat_lit 435 :: nat_lit 437 :: nat_lit 438 :: nat_lit 439 :: nat_lit 441 :: nat_lit 442 :: nat_lit 444 :: nat_lit 445 :: nat_lit 446 :: nat_lit 448 :: nat_lit 449 :: nat_lit 451 :: nat_lit 452 :: nat_lit 453 :: nat_lit 454 :: nat_lit 455 :: nat_lit 456 :: nat_lit 457 :: nat_lit 460 :: nat_lit 462 :: nat_lit 463 :: nat_lit 465 :: nat_lit 466 :: nat_lit 467 :: nat_lit 469 :: nat_lit 470 :: nat_lit 472 :: nat_lit 473 :: nat_lit 474 :: nat_lit 476 :: nat_lit 477 :: nat_lit 479 :: nat_lit 480 :: nat_lit 481 :: nat_lit 483 :: nat_lit 484 :: nat_lit 486 :: nat_lit 487 :: nat_lit 488 :: nat_lit 491 :: nat_lit 492 :: nat_lit 493 :: nat_lit 495 :: nat_lit 496 :: nat_lit 498 :: nat_lit 499 :: nat_lit 500 :: nat_lit 502 :: nat_lit 503 :: nat_lit 505 :: nat_lit 506 :: nat_lit 507 :: nat_lit 510 :: nat_lit 511 :: nat_lit 512 :: nat_lit 515 :: nat_lit 516 :: nat_lit 517 :: nat_lit 519 :: nat_lit 520 :: nat_lit 522 :: nat_lit 523 :: nat_lit 524 :: nat_lit 526 :: nat_lit 527 :: nat_lit 529 :: nat_lit 530 :: nat_lit 531 :: nat_lit 533 :: nat_lit 534 :: nat_lit 536 :: nat_lit 537 :: nat_lit 538 :: nat_lit 540 :: nat_lit 541 :: nat_lit 543 :: nat_lit 544 :: nat_lit 545 :: nat_lit 547 :: nat_lit 548 :: nat_lit 550 :: nat_lit 551 :: nat_lit 552 :: nat_lit 555 :: nat_lit 556 :: []
end
end Mine

namespace Mine
section
noncomputable def env0 : Env := { scope := prog.main.scope, locals := mainNs, globals := mainNs, cells := [], code := .ref 13, frame := some 14 }
noncomputable abbrev cd0 : Code := .body (behindTheImports prog) env0
noncomputable abbrev st0 (T : Params → BT) (n k : Nat) (w : World) (os : OsState) : SharedT := ⟨T w.params, n, {}, #[], {}, k, os⟩
noncomputable def stsOf (a b : Nat) : List Stmt := ((behindTheImports prog).drop a).take b
abbrev B0 : List Frame := [topFrame ⟨0, 0, 0, 0⟩]
noncomputable abbrev pcs (a b : Nat) (p : Pos) : Thread := piecesOf (stsOf a b) env0 cd0 p B0
theorem pre1 : ∀ w : World, (fun os => topGo treeTable prog w 11 (some (.ref 6)) 12 ⟨boot_heap w.params, #[], boot_drawn, boot_toks, os⟩ (topStub prog)) =
    fun os => some ((⟨heap_47 w.params, #[], {}, 187, os⟩ : Shared), (⟨denote treeTable cd0, cd0, ⟨0, 0, 0, 0⟩, B0⟩ : Thread)) := by
  intro w
  rw [Fast.te15667345088766844465, Fast.te11892475500146522536, Fast.te14364793385576792824]
  kernel_rfl
theorem blk1 : ∀ w : World, (fun os => segRun treeTable prog w 11 (some (.ref 6)) 1 1 ⟨heap_47 w.params, #[], {}, 187, os⟩ (blockOf (behindTheImports prog) env0 cd0 ⟨0, 0, 0, 0⟩ B0)) =
    fun os => some (Flow.next, (st0 tree_47 15 187 w os).abs, cd0, (⟨0, 0, 0, 0⟩ : Pos)) := by
  intro w
  rw [Fast.te14374325043358763698, Fast.te14364793385576792824]
  kernel_rfl
theorem pcA : ∀ w : World, (fun os => segRunT treeTable prog w 11 (some (.ref 6)) 1 1142 (st0 tree_47 15 187 w os) (pcs 0 17 ⟨0, 0, 0, 0⟩)) =
    fun os => some (Flow.next, st0 tree_168 123 337 w os, cd0, (⟨38, 0, 39, 59⟩ : Pos)) := by
  intro w
  rw [Fast.te10110043849684766642, Fast.te14364793385576792824]
  kernel_rfl
theorem pcB : ∀ w : World, (fun os => segRunT treeTable prog w 11 (some (.ref 6)) 1 1138 (st0 tree_168 123 337 w os) (pcs 17 24 ⟨38, 0, 39, 59⟩)) =
    fun os => some (Flow.next, st0 tree_363 312 581 w os, cd0, (⟨143, 0, 144, 53⟩ : Pos)) := by
  intro w
  rw [Fast.te10110043849684766642, Fast.te14364793385576792824]
  kernel_rfl
theorem pcC : ∀ w : World, (fun os => segRunT treeTable prog w 11 (some (.ref 6)) 1 1109 (st0 tree_363 312 581 w os) (pcs 41 6 ⟨143, 0, 144, 53⟩)) =
    fun os => some (Flow.next, st0 tree_517 460 818 w os, cd0, (⟨207, 0, 240, 85⟩ : Pos)) := by
  intro w
  rw [Fast.te10110043849684766642, Fast.te14364793385576792824]
  kernel_rfl
theorem pcD : ∀ w : World, (fun os => segRunT treeTable prog w 11 (some (.ref 6)) 1 482 (st0 tree_517 460 818 w os) (pcs 47 16 ⟨207, 0, 240, 85⟩)) =
    fun os => some (Flow.next, st0 tree_618 557 970 w os, cd0, (⟨330, 0, 337, 105⟩ : Pos)) := by
  intro w
  rw [Fast.te10110043849684766642, Fast.te14364793385576792824]
  kernel_rfl
theorem fin1 : ∀ w : World, (fun os => topRun treeTable prog w 11 (some (.ref 6)) 2 (st0 tree_618 557 970 w os).abs ⟨doneF .next, cd0, ⟨330, 0, 337, 105⟩, B0⟩) =
    fun os => some (⟨heap_618 w.params, #[], {}, 970, os⟩ : Shared) := by
  intro w
  rw [Fast.te14082659384304107361, Fast.te14364793385576792824]
  kernel_rfl
theorem body4 : behindTheImports prog = stsOf 0 17 ++ (stsOf 17 24 ++ (stsOf 41 6 ++ (stsOf 47 16 ++ []))) := by kernel_rfl
theorem run1 (w : World) (os : OsState) : topRun treeTable prog w 11 (some (.ref 6)) (12 + (1 + (1142 + (1138 + (1109 + (482 + 2)))))) ⟨boot_heap w.params, #[], boot_drawn, boot_toks, os⟩ (topStub prog) =
    some ⟨heap_618 w.params, #[], {}, 970, os⟩ := by
  refine go_top (congrFun (pre1 w) os) (piece_block (congrFun (blk1 w) os) ?_)
  have k := piece_app (rest := []) (segRun_of (congrFun (pcD w) os)) (congrFun (fin1 w) os)
  have k := piece_app (segRun_of (congrFun (pcC w) os)) k
  have k := piece_app (segRun_of (congrFun (pcB w) os)) k
  have k := piece_app (segRun_of (congrFun (pcA w) os)) k
  rw [← body4] at k
  exact k
end
end Mine

namespace Mine
section
noncomputable def view0 : Program := view prog (List.range 63)
abbrev loose0 : List Str := [Str.ofString "fraction"]
noncomputable abbrev hook0 : Hook := kHook hd.heap_39 kAs (fun _ => by kernel_rfl)
noncomputable abbrev Xt0 : Shared → Bool := fun s => xlAt view0 [] s && recOk (RowW.records PySem.Challenge.rw_nu0030_01.row.toRowW) s
noncomputable abbrev sF (w : World) (os : OsState) : Shared := ⟨heap_618 w.params, #[], {}, 970, os⟩
theorem size1 : ∀ w : World, ((boot_heap w.params).isNs mainGlobals && (#[] : Array GenState).size == 0, (boot_heap w.params).objs.size, (boot_heap w.params).nsMap mainGlobals "__annotations__") = (true, 11, some (.ref 6)) := by
  intro w
  rw [Fast.te8920871248978507458]
  kernel_rfl
theorem open1 : opening prog = plainProg prog.main.scope.names := by kernel_rfl
theorem fence1 : ∀ s, fenceModules? prog s = some s := fun s => by kernel_rfl
theorem lk0 (w : World) (os : OsState) : (staticsOk (importedModules prog.main.body) (boot_heap w.params) (heap_618 w.params) && namesBound prog (heap_618 w.params) && gensDone (sF w os) && laidKept (boot_heap w.params) (heap_618 w.params)) = true := by
  rw [Fast.te5923862056798008813]
  kernel_rfl
theorem lk1 (w : World) (os : OsState) : seen ((recsOf view0).map (·.name)) (ownsOf view0) [] { sF w os with gens := #[] } = expectedOf view0 := by
  rw [Fast.te3399658132070893891, Fast.te5991557255702980513, Fast.te5160383126252970620]
  kernel_rfl
theorem lk2 (w : World) (os : OsState) : (sF w os).heap.bltView = bltViewBooted := by kernel_rfl
theorem lk3 (w : World) (os : OsState) : ((sF w os).heap.keysOk (looseW view0 loose0) ((recsOf view0).map (·.name)) ((litsOf view0).map (·.1)) ((clssOf view0 (looseW view0 loose0)).map (·.name)) && (sF w os).heap.accountedOkI (importedModules prog.main.body) && (sF w os).heap.isNs mainGlobals && (sF w os).heap.isNs builtinsNs && tablesOk view0 (sF w os).heap && Xt0 (sF w os) && (if true then (sF w os).gens.size == 0 else !leftWithCleanup (sF w os).gens)) = true := by
  rw [Fast.te10880121769531294198, Fast.te821141287760084731, Fast.te3399658132070893891, Fast.te7409074990110511671, Fast.te13664370479719496447, Fast.te14722251495701143533, Fast.te5923862056798008813, Fast.te10994771534591457954]
  kernel_rfl
theorem lk4 (w : World) (os : OsState) : tabsOk view0 (sF w os) = true := by
  rw [Fast.te479339242167458305]
  kernel_rfl
theorem lk5 (w : World) (os : OsState) : pinSeenD view0 (drecsOf view0) (sF w os) = pinGoodD (drecsOf view0) := by
  rw [Fast.te16090120013241838585, Fast.te3247288618530077131]
  kernel_rfl
theorem lk6 (w : World) (os : OsState) : plainSeenE view0 (looseW view0 loose0) (sF w os) = plainGoodE view0 (looseW view0 loose0) := by
  rw [Fast.te2386780881361962483, Fast.te821141287760084731]
  kernel_rfl
theorem lk7 (w : World) (os : OsState) : plainSeenD view0 loose0 (sF w os) = plainGoodD view0 loose0 := by
  rw [Fast.te11698064438423848299]
  kernel_rfl
theorem lk8 (w : World) (os : OsState) : wideSeen view0 (sF w os) = wideGood view0 := by
  rw [Fast.te7317090234206586261]
  kernel_rfl
theorem lk9 (w : World) (os : OsState) : clsSeenW view0 loose0 (sF w os) = clsGoodW view0 loose0 := by
  rw [Fast.te7369524293546568484]
  kernel_rfl
theorem lk10 (w : World) (os : OsState) : Hook.obs hook0 (sF w os) = Hook.val hook0 w := by
  kernel_rfl
theorem looks1 : ∀ w : World, (fun os => ((staticsOk (importedModules prog.main.body) (boot_heap w.params) (heap_618 w.params) && namesBound prog (heap_618 w.params) && gensDone (sF w os) && laidKept (boot_heap w.params) (heap_618 w.params)),
        openSeen view0 loose0 (importedModules prog.main.body) Xt0 true (sF w os), Hook.obs hook0 (sF w os))) = fun _ => (true, openGood view0 loose0, Hook.val hook0 w) := by
  intro w
  funext os
  exact congr (congrArg Prod.mk (lk0 w os)) (congr (congrArg Prod.mk (congr (congrArg Prod.mk (lk1 w os)) (congr (congrArg Prod.mk (lk2 w os)) (congr (congrArg Prod.mk (lk3 w os)) (congr (congrArg Prod.mk (lk4 w os))
    (congr (congrArg Prod.mk (lk5 w os)) (congr (congrArg Prod.mk (lk6 w os)) (congr (congrArg Prod.mk (lk7 w os)) (congr (congrArg Prod.mk (lk8 w os)) (lk9 w os)))))))))) (lk10 w os))
theorem left1 : LeftO prog view0 loose0 Xt0 (Hook.obs hook0) (Hook.val hook0) 7860 :=
  LeftO.of_pieces (boot_open open1 (by decide) fence1) size1 run1 (by decide) looks1
end
end Mine

namespace Mine
section
theorem said2 : OpenRow.wellSaid PySem.Challenge.rw_nu0030_01.row = true := by
  unfold OpenRow.wellSaid OpenRow.partSaid looksOpen
  simp only [Fast.te18344453789297297638, Fast.te12749700546528644094, Fast.te3471404346716756564, Fast.te2357444279172408678, Fast.te4857012375875476094, Fast.te13582783067957832011, Fast.te5318747976498570220, Fast.te9807087744658564304, Fast.te12862048085361865435, Fast.te8377067652309620493, Fast.te5923862056798008813, Fast.te4274047373036748609, Fast.te17691160309236699985, Fast.te13343964577679436407, Fast.te14412699480532031325, Fast.te11788848310118352699]
  kernel_rfl
theorem said1 : OpenLaw.wellSaid PySem.Challenge.rw_nu0030_01 = true := by
  unfold OpenLaw.wellSaid
  rw [said2]
  simp only [Fast.te10501279942588096481, Fast.te10792542408131684335, Fast.te12879404354523853263, Fast.te16286561074155671207, Fast.te17095254045102204799, Fast.te17119622794617984870, Fast.te6984425678791042302, Fast.te7723801398212525404, Fast.te797321630700447069, Fast.te8179353310426384613, Fast.te8326940854005059898, Fast.te9558739934217749035, Fast.te9572597257264208301]
  kernel_rfl
def fnPos : Stmt → Pos
  | .FunctionDef _ _ _ _ _ _ _ _ _ p => p
  | _ => default
noncomputable abbrev posL : Pos := by
  refine' lit (a := fnPos (stAt prog.main.body 62)) ?x ?h
  case h => conv => lhs; whnf
theorem def1 : defOf view0 PySem.Challenge.rw_nu0030_01.row.name = some ((⟨.ofString "law", pr60, bd60, sc60, posL⟩ : DefRec), []) := by kernel_rfl
theorem def2 : PySem.Challenge.rw_nu0030_01.row.prog.theDef PySem.Challenge.rw_nu0030_01.row.name = some (pr60, bd60, sc60) := by kernel_rfl
/-- the head: what is left is the law's own walk -/
theorem hd (call : WalkO view0 loose0 (XL view0 []) (Hook.says hook0) PySem.Challenge.rw_nu0030_01.row.toRowW ⟨.ofString "law", pr60, bd60, sc60, posL⟩ [] fun f vs => PySem.call f vs) : PySem.Challenge.rw_nu0030_01.Holds := by
  refine holds_law said1 fun said => ?_
  refine holds_open (q := view0) (loose := loose0) (Xt := Xt0) (XP := XL view0 []) (Yf := Hook.obs hook0) (Ya := Hook.val hook0) (YP := Hook.says hook0) (N := 7860) left1 (Hook.of hook0) (Hook.keeps hook0) (fun s e => xl_of s (Bool.and_eq_true_iff.mp e).1) XL.keeps def1 def2 rfl (fun s e => recFacts_of (Bool.and_eq_true_iff.mp e).2) rfl said2 (by decide +kernel) ⟨rfl, rfl, rfl, rfl, rfl, by decide +kernel⟩ ?_ call
  w_witness2
end
end Mine

namespace Mine
section
/-- the goal put behind a name, so that what is opened meanwhile does not bear it -/
theorem hideG {G : Prop} (h : ∀ G9 : Prop, (G → G9) → G9) : G := h G id

/-- what every step of this program keeps of the state beside the heap -/
def Sm (s t : Shared) : Prop := t.os = s.os ∧ t.gens = s.gens
theorem Sm.refl (s : Shared) : Sm s s := ⟨rfl, rfl⟩
theorem Sm.trans {s t u : Shared} (a : Sm s t) (b : Sm t u) : Sm s u := ⟨b.1.trans a.1, b.2.trans a.2⟩
theorem all_nil {α : Type} {P : α → Prop} : ∀ p ∈ ([] : List α), P p := fun _ h => nomatch h
theorem all_cons {α : Type} {P : α → Prop} {a : α} {l : List α} (h : P a) (hl : ∀ p ∈ l, P p) : ∀ p ∈ a :: l, P p := fun p hp => by
  rcases List.mem_cons.mp hp with rfl | hp
  · exact h
  · exact hl p hp
/-- what a loop or a comprehension walks -/
structure Iter (prog : Program) (w : World) (A : Around) (h₀ : Heap) (pin : List (Addr × Obj)) (I : Addr) (fp : List Addr) (n : Nat) (P : Nat → Value → Prop) (St : Nat → Heap → Prop) : Prop where
  W : Walks prog w A I fp [I] n P St
  hfp : ∀ b ∈ fp, b = I ∨ (∃ o, h₀.get? b = some o) ∨ ∃ o, (b, o) ∈ pin
  live : ∀ i h, St i h → ∃ o nm fs, h.get? I = some o ∧ o.cls = .type nm ∧ o.data = .fields fs ∧ nm ∈ ["list_iterator", "tuple_iterator", "range_iterator"]

section
variable {prog : Program} {w : World} {A : Around} {E : Value → Shared → Prop} {s : Shared} {env : Env} {h₀ : Heap} {L I : Addr} {pin nw : List (Addr × Obj)} {m : Str → Option Value} {fp : List Addr} {n : Nat} {P : Nat → Value → Prop} {St : Nat → Heap → Prop}

theorem Iter.list (hh : A.handled = none) (I ax : Addr) (hne : ax ≠ I) (vs : List Value) (hin : (∃ o, h₀.get? ax = some o) ∨ ∃ o, (ax, o) ∈ pin) :
    Iter prog w A h₀ pin I [I, ax] vs.length (fun i v => vs[i]? = some v) (fun i h => h.IsListIter I ax i ∧ h.IsList ax vs.toArray) where
  W := by
    have := Walks.list (prog := prog) (w := w) hh I ax hne vs.toArray
    simpa using this
  hfp := fun b hb => by
    rcases List.mem_cons.mp hb with e | hb
    · exact .inl e
    · rw [List.mem_singleton.mp hb]; exact .inr hin
  live := fun i h st => by
    obtain ⟨o, a, b, c⟩ := st.1
    exact ⟨o, _, _, a, b, c, by decide⟩
theorem Iter.tuple (hh : A.handled = none) (I ax : Addr) (hne : ax ≠ I) (vs : List Value) (hin : (∃ o, h₀.get? ax = some o) ∨ ∃ o, (ax, o) ∈ pin) :
    Iter prog w A h₀ pin I [I, ax] vs.length (fun i v => vs[i]? = some v) (fun i h => h.IsTupleIter I ax i ∧ h.IsTuple ax vs.toArray) where
  W := by
    have := Walks.tuple (prog := prog) (w := w) hh I ax hne vs.toArray
    simpa using this
  hfp := fun b hb => by
    rcases List.mem_cons.mp hb with e | hb
    · exact .inl e
    · rw [List.mem_singleton.mp hb]; exact .inr hin
  live := fun i h st => by
    obtain ⟨o, a, b, c⟩ := st.1
    exact ⟨o, _, _, a, b, c, by decide⟩
theorem Iter.range (hh : A.handled = none) (I : Addr) (a : Int) (n : Nat) :
    Iter prog w A h₀ pin I [I] n (fun i v => ∃ t, v = .int (a + i * 1) t) (fun i h => IsRangeIter h I (a + (i : Nat) * 1) ((n : Int) - (i : Nat)) 1) where
  W := Walks.range hh I a 1 n
  hfp := fun b hb => .inl (List.mem_singleton.mp hb)
  live := fun i h st => ⟨_, _, _, st, rfl, rfl, by decide⟩

theorem letGo_iter {target : Expr} {v : Value} {Q : Unit → Shared → Prop} {o : Obj} {nm : String} {fs : Array Value} (ho : s.heap.get? I = some o) (hc : o.cls = .type nm) (hd : o.data = .fields fs)
    (hn : nm ∈ ["list_iterator", "tuple_iterator", "range_iterator"]) (h : Q () s) : wpAny (model prog w) A (letOwnedTupleGo target (.ref I) v) Q E s := by
  have key : ∀ (r : Addr), wpAny (model prog w) A (do
      let o ← load I
      match o.cls, o.data with
      | .type n, .fields vs =>
        if ["enumerate", "zip", "dict_itemiterator", "dict_reverseitemiterator", "odict_iterator", "itertools.zip_longest", "itertools.pairwise"].contains n && vs[0]? == some (rawInt r) then
          rule "for.unpacks-the-owned-tuple"
          updateField I 0 .none
      | _, _ => pure ()) Q E s := by
    intro r
    refine wpAny_bind (wpAny_load ho ?_)
    rw [hc, hd]
    have hb : ["enumerate", "zip", "dict_itemiterator", "dict_reverseitemiterator", "odict_iterator", "itertools.zip_longest", "itertools.pairwise"].contains nm = false := by
      simp only [List.mem_cons, List.not_mem_nil, or_false] at hn
      rcases hn with rfl | rfl | rfl <;> decide
    simp only [hb, Bool.false_and, Bool.false_eq_true, if_false]
    exact wpAny_pure h
  unfold letOwnedTupleGo
  split
  · cases v <;> first | exact wpAny_pure h | exact key _
  · cases v <;> first | exact wpAny_pure h | exact key _
  · exact wpAny_pure h

theorem next_frame {h h₁ : Heap} {oI oI' : Obj} {l : List (Addr × Obj)} (F : Fr h₀ L h m) (N : News h₀ L h ((I, oI) :: l)) (hI : ∀ p ∈ l, p.1 ≠ I) (hk : ∀ b o, b ∉ [I] → h.get? b = some o → h₁.get? b = some o)
    (ho : h₁.get? I = some oI') : Fr h₀ L h₁ m ∧ News h₀ L h₁ ((I, oI') :: l) := by
  have hL : L ≠ I := fun e => (N _ (.head _)).2.1 e.symm
  have hI0 := (N _ (.head _)).2.2
  refine ⟨⟨F.ns.at' fun o e => hk L o (by simpa using hL) e, fun b o e => hk b o ?_ (F.keep b o e), F.above⟩, fun p hp => ?_⟩
  · intro hb
    rw [List.mem_singleton.mp hb] at e
    rw [hI0] at e; cases e
  · rcases List.mem_cons.mp hp with rfl | hp
    · exact ⟨ho, (N _ (.head _)).2⟩
    · exact ⟨hk _ _ (by simpa using hI p hp) (N p (.tail _ hp)).1, (N p (.tail _ hp)).2⟩

theorem Iter.keep (T : Iter prog w A h₀ pin I fp n P St) {h h' : Heap} {i : Nat} {m' : Str → Option Value} {l l' : List (Addr × Obj)} {oI : Obj} (st : St i h) (F : Fr h₀ L h m) (N : News h₀ L h l) (F' : Fr h₀ L h' m') (N' : News h₀ L h' l')
    (h1 : (I, oI) ∈ l) (h2 : (I, oI) ∈ l') (h3 : ∀ p ∈ pin, p ∈ l) (h4 : ∀ p ∈ pin, p ∈ l') : St i h' := by
  refine T.W.frame _ _ _ st fun b hb o e => ?_
  rcases T.hfp b hb with rfl | ⟨o', e'⟩ | ⟨o', hm⟩
  · have := (N _ h1).1
    rw [this] at e; cases e
    exact (N' _ h2).1
  · have := F.keep b o' e'
    rw [this] at e; cases e
    exact F'.keep b _ e'
  · have := (N _ (h3 _ hm)).1
    rw [this] at e; cases e
    exact (N' _ (h4 _ hm)).1

/-- the ledger at a turn's end, the walker in it -/
inductive ForOn (s : Shared) (h₀ : Heap) (L I : Addr) (oI : Obj) (pin : List (Addr × Obj)) (J : (Str → Option Value) → List (Addr × Obj) → Prop) (s₂ : Shared) : Prop
  | mk (m' : Str → Option Value) (nw l : List (Addr × Obj)) (S : Sm s s₂) (F : Fr h₀ L s₂.heap m') (N : News h₀ L s₂.heap l) (h1 : (I, oI) ∈ l) (h2 : ∀ p ∈ pin, p ∈ l) (h3 : ∀ p ∈ nw, p ∈ l) (h4 : ∀ p ∈ nw, p.1 ≠ I) (hJ : J m' nw) : ForOn s h₀ L I oI pin J s₂
/-- how a turn of a loop ends -/
def ForOut (s : Shared) (h₀ : Heap) (L I : Addr) (oI : Obj) (pin : List (Addr × Obj)) (J : (Str → Option Value) → List (Addr × Obj) → Prop) (Q : Flow → Shared → Prop) (f : Flow) (s₂ : Shared) : Prop :=
  match f with
  | .ret v => Q (.ret v) s₂
  | .brk => Q .next s₂
  | _ => ForOn s h₀ L I oI pin J s₂
/-- a turn -/
def ForTurn (s : Shared) (prog : Program) (w : World) (A : Around) (env : Env) (h₀ : Heap) (L I : Addr) (pin : List (Addr × Obj)) (target : Expr) (body : List Stmt) (Q : Flow → Shared → Prop) (J J' : (Str → Option Value) → List (Addr × Obj) → Prop) (v : Value) : Prop :=
  ∀ m₁ nw₁ (s₁ : Shared) oI, J m₁ nw₁ → (∀ p ∈ nw₁, p.1 ≠ I) → (∃ fs, oI.data = .fields fs) → Sm s s₁ → Fr h₀ L s₁.heap m₁ → News h₀ L s₁.heap ((I, oI) :: (pin ++ nw₁)) →
    wpAny (model prog w) A (assign target env v) (fun _ s₂ => wpAny (model prog w) A (execs body env) (ForOut s h₀ L I oI pin J' Q) (fun _ _ => False) s₂) (fun _ _ => False) s₁
inductive ForInv (s : Shared) (h₀ : Heap) (L I : Addr) (pin : List (Addr × Obj)) (n : Nat) (St : Nat → Heap → Prop) (J : Nat → (Str → Option Value) → List (Addr × Obj) → Prop) (k : Nat) (s' : Shared) : Prop
  | mk (m₁ : Str → Option Value) (nw₁ : List (Addr × Obj)) (oI : Obj) (i : Nat) (S : Sm s s') (st : St i s'.heap) (F : Fr h₀ L s'.heap m₁) (N : News h₀ L s'.heap ((I, oI) :: (pin ++ nw₁))) (hn : ∀ p ∈ nw₁, p.1 ≠ I) (hJ : J i m₁ nw₁) (hi : i ≤ n) (hk : k = n - i) : ForInv s h₀ L I pin n St J k s'

theorem for_loop {target : Expr} {body : List Stmt} {Q : Flow → Shared → Prop} {oI₀ : Obj} {s₀ : Shared} (S₀ : Sm s₀ s) (T : Iter prog w A h₀ pin I fp n P St)
    (J : Nat → (Str → Option Value) → List (Addr × Obj) → Prop) (st₀ : St 0 s.heap) (F₀ : Fr h₀ L s.heap m) (N₀ : News h₀ L s.heap ((I, oI₀) :: (pin ++ nw))) (hp : ∀ p ∈ pin, p.1 ≠ I) (hn₀ : ∀ p ∈ nw, p.1 ≠ I) (hJ₀ : J 0 m nw)
    (turn : ∀ i v, i < n → P i v → ForTurn s₀ prog w A env h₀ L I pin target body Q (J i) (J (i + 1)) v)
    (done : ∀ m₁ nw₁ (s₁ : Shared), J n m₁ nw₁ → Sm s₀ s₁ → Fr h₀ L s₁.heap m₁ → News h₀ L s₁.heap (pin ++ nw₁) → Q .next s₁) :
    codeAny (model prog w) A (.forLoop target (.ref I) body [] env) (fun r s' => match r with | .ok f => Q f s' | .error e => cameBackBy (model prog w) A env (fun _ _ => False) e s') s := by
  refine codeAny_forLoop_any (ForInv s₀ h₀ L I pin n St J) ?_ n (ForInv.mk m nw oI₀ 0 S₀ st₀ F₀ N₀ hn₀ hJ₀ (Nat.zero_le _) rfl)
  rintro k s' ⟨m₁, nw₁, oI, i, S, st, F, N, hn, hJ, hi, rfl⟩
  have hI : ∀ p ∈ pin ++ nw₁, p.1 ≠ I := fun p hq => (List.mem_append.mp hq).elim (hp p) (hn p)
  by_cases hlt : i < n
  · refine T.W.item i _ _ _ hlt st fun v h₁ tk₁ hP st₁ hk => ?_
    refine hideG fun Gzq kzq => ?_
    obtain ⟨oI', nm, fs, ho, hc, hd, hnm⟩ := T.live _ _ st₁
    obtain ⟨F₁, N₁⟩ := next_frame F N hI hk ho
    refine kzq ?_
    clear kzq Gzq
    refine letGo_iter (s := { s' with heap := h₁, toks := tk₁ }) ho hc hd hnm ?_
    refine wpAny_mono (turn i v hlt hP m₁ nw₁ { s' with heap := h₁, toks := tk₁ } oI' hJ hn ⟨fs, hd⟩ S F₁ N₁) (fun _ s₂ h₂ => ?_) (fun _ _ e => e.elim)
    refine wpAny_mono h₂ (fun f s₃ h₃ => ?_) (fun _ _ e => e.elim)
    have fin : ForOn s₀ h₀ L I oI' pin (J (i + 1)) s₃ → ∃ m, m < n - i ∧ ForInv s₀ h₀ L I pin n St J m s₃ := by
      rintro ⟨m', nw', l, S', F', N', h1, h2, h3, h4, hJ'⟩
      have N'' : News h₀ L s₃.heap ((I, oI') :: (pin ++ nw')) := fun p hq => N' p (by
        rcases List.mem_cons.mp hq with rfl | hq
        · exact h1
        · exact (List.mem_append.mp hq).elim (h2 p) (h3 p))
      exact ⟨n - (i + 1), by omega, ForInv.mk m' nw' oI' (i + 1) S' (T.keep st₁ F₁ N₁ F' N' (.head _) h1 (fun p hq => .tail _ (List.mem_append_left _ hq)) h2) F' N'' h4 hJ' hlt rfl⟩
    cases f with
    | next => exact fin h₃
    | cont => exact fin h₃
    | brk => exact h₃
    | ret v => exact h₃
  · have hin : i = n := by omega
    subst hin
    refine T.W.done _ _ _ st fun h₁ tk₁ hk => ?_
    refine wpAny_execs_nil ?_
    have hL : L ≠ I := fun e => (N _ (.head _)).2.1 e.symm
    have hI0 := (N _ (.head _)).2.2
    refine done m₁ nw₁ _ hJ S ⟨F.ns.at' fun o e => hk L o (by simpa using hL) e, fun b o e => hk b o ?_ (F.keep b o e), F.above⟩ fun p hq => ⟨hk _ _ (by simpa using hI p hq) (N p (.tail _ hq)).1, (N p (.tail _ hq)).2⟩
    intro hb
    rw [List.mem_singleton.mp hb] at e
    rw [hI0] at e; cases e

theorem for_list {target : Expr} {body : List Stmt} {Q : Flow → Shared → Prop} {l : Addr} {vs : List Value} (hh : A.handled = none) (hl : s.heap.IsList l vs.toArray) (hin : (∃ o, h₀.get? l = some o) ∨ ∃ o, (l, o) ∈ pin)
    (J : Nat → (Str → Option Value) → List (Addr × Obj) → Prop) (F₀ : Fr h₀ L s.heap m) (N₀ : News h₀ L s.heap (pin ++ nw)) (hJ₀ : J 0 m nw)
    (turn : ∀ I i v, (∀ p ∈ pin ++ nw, p.1 < I) → vs[i]? = some v → ForTurn s prog w A env h₀ L I pin target body Q (J i) (J (i + 1)) v)
    (done : ∀ m₁ nw₁ (s₁ : Shared), J vs.length m₁ nw₁ → Sm s s₁ → Fr h₀ L s₁.heap m₁ → News h₀ L s₁.heap (pin ++ nw₁) → Q .next s₁) :
    wpAny (model prog w) A (pyIter (.ref l)) (fun it s₂ => codeAny (model prog w) A (.forLoop target it body [] env) (fun r s' => match r with | .ok f => Q f s' | .error e => cameBackBy (model prog w) A env (fun _ _ => False) e s') s₂) E s := by
  have hlt : ∀ p ∈ pin ++ nw, p.1 < s.heap.objs.size := fun p hp => Heap.lt_size (N₀ p hp).1
  have hne : l ≠ s.heap.objs.size := by
    obtain ⟨o, ho, _⟩ := hl
    exact Nat.ne_of_lt (Heap.lt_size ho)
  refine wpAny_pyIter_list hl ?_
  exact for_loop (s₀ := s) (s := { s with heap := s.heap.push { cls := .type "list_iterator", data := .fields #[.ref l, .int 0 0] } }) (I := s.heap.objs.size) (oI₀ := { cls := .type "list_iterator", data := .fields #[.ref l, .int 0 0] }) ⟨rfl, rfl⟩ (Iter.list hh s.heap.objs.size l hne vs hin) J
    ⟨⟨_, Heap.get?_push_size _ rfl, rfl, rfl⟩, hl.at fun o e => Heap.get?_push_of_some _ e⟩ (F₀.push _) (N₀.push F₀ _) (fun p hp => Nat.ne_of_lt (hlt p (List.mem_append_left _ hp))) (fun p hp => Nat.ne_of_lt (hlt p (List.mem_append_right _ hp))) hJ₀
    (fun i v _ hP => turn _ i v hlt hP) done
theorem for_range {target : Expr} {body : List Stmt} {Q : Flow → Shared → Prop} {r : Addr} {a b : Int} {n : Nat} {t u v : Tok} (hh : A.handled = none) (hr : IsRange s.heap r a b 1 t u v) (hsmall : Builtin.Range.small a b 1 = true) (hn : Builtin.Range.rangeSize a b 1 = (n : Int))
    (J : Nat → (Str → Option Value) → List (Addr × Obj) → Prop) (F₀ : Fr h₀ L s.heap m) (N₀ : News h₀ L s.heap (pin ++ nw)) (hJ₀ : J 0 m nw)
    (turn : ∀ I i tv, (∀ p ∈ pin ++ nw, p.1 < I) → i < n → ForTurn s prog w A env h₀ L I pin target body Q (J i) (J (i + 1)) (.int (a + (i : Nat) * 1) tv))
    (done : ∀ m₁ nw₁ (s₁ : Shared), J n m₁ nw₁ → Sm s s₁ → Fr h₀ L s₁.heap m₁ → News h₀ L s₁.heap (pin ++ nw₁) → Q .next s₁) :
    wpAny (model prog w) A (pyIter (.ref r)) (fun it s₂ => codeAny (model prog w) A (.forLoop target it body [] env) (fun r s' => match r with | .ok f => Q f s' | .error e => cameBackBy (model prog w) A env (fun _ _ => False) e s') s₂) E s := by
  have hlt : ∀ p ∈ pin ++ nw, p.1 < s.heap.objs.size := fun p hp => Heap.lt_size (N₀ p hp).1
  refine wpAny_pyIter_range hr hsmall ?_
  rw [hn]
  exact for_loop (s₀ := s) (s := { s with heap := s.heap.push { cls := .type "range_iterator", data := .fields #[rawInt a, rawInt n, rawInt 1] } }) (I := s.heap.objs.size) (oI₀ := { cls := .type "range_iterator", data := .fields #[rawInt a, rawInt n, rawInt 1] }) ⟨rfl, rfl⟩ (Iter.range hh s.heap.objs.size a n) J
    (by show IsRangeIter _ _ _ _ _; simpa using Heap.get?_push_size _ rfl) (F₀.push _) (N₀.push F₀ _) (fun p hp => Nat.ne_of_lt (hlt p (List.mem_append_left _ hp))) (fun p hp => Nat.ne_of_lt (hlt p (List.mem_append_right _ hp))) hJ₀
    (fun i v hi hP => by obtain ⟨tv, rfl⟩ := hP; exact turn _ i tv hlt hi) done
/-- a while turned once more -/
inductive Turned (s : Shared) (h₀ : Heap) (L : Addr) (J : Nat → (Str → Option Value) → List (Addr × Obj) → Prop) (n : Nat) (s₃ : Shared) : Prop
  | mk (m₂ : Str → Option Value) (news₂ : List (Addr × Obj)) (n' : Nat) (S : Sm s s₃) (F : Fr h₀ L s₃.heap m₂) (N : News h₀ L s₃.heap news₂) (hn : n' < n) (hJ : J n' m₂ news₂) : Turned s h₀ L J n s₃
def WhileB (s : Shared) (h₀ : Heap) (L : Addr) (J : Nat → (Str → Option Value) → List (Addr × Obj) → Prop) (Q : Flow → Shared → Prop) (n : Nat) (f : Flow) (s₃ : Shared) : Prop :=
  match f with
  | .next | .cont => Turned s h₀ L J n s₃
  | .brk => Q .next s₃
  | .ret v => Q (.ret v) s₃
inductive WhileInv (s : Shared) (h₀ : Heap) (L : Addr) (J : Nat → (Str → Option Value) → List (Addr × Obj) → Prop) (n : Nat) (s' : Shared) : Prop
  | mk (m₁ : Str → Option Value) (news₁ : List (Addr × Obj)) (S : Sm s s') (F : Fr h₀ L s'.heap m₁) (N : News h₀ L s'.heap news₁) (hJ : J n m₁ news₁) : WhileInv s h₀ L J n s'
theorem while_b {test : Expr} {body : List Stmt} {pos : Pos} {news : List (Addr × Obj)} {Q : Flow → Shared → Prop} (J : Nat → (Str → Option Value) → List (Addr × Obj) → Prop) {n₀ : Nat}
    (F : Fr h₀ L s.heap m) (N : News h₀ L s.heap news) (hJ : J n₀ m news)
    (turn : ∀ n m₁ news₁ (s₁ : Shared), Sm s s₁ → Fr h₀ L s₁.heap m₁ → News h₀ L s₁.heap news₁ → J n m₁ news₁ →
      wpAny (model prog w) A (isTrue test env (eval test env)) (fun b s₂ => if b = true then wpAny (model prog w) A (execs body env) (WhileB s h₀ L J Q n) (fun _ _ => False) s₂ else Q .next s₂) (fun _ _ => False) s₁) :
    wpAny (model prog w) A (exec (.While test body [] pos) env) Q (fun _ _ => False) s := by
  refine wpAny_While (codeAny_whileLoop (WhileInv s h₀ L J) ?_ n₀ (WhileInv.mk m news (Sm.refl s) F N hJ))
  rintro n s' ⟨m₁, news₁, S₁, F₁, N₁, J₁⟩
  refine wpAny_mono (turn n m₁ news₁ s' S₁ F₁ N₁ J₁) (fun b s₂ h₂ => ?_) PassesOwn.never
  cases b with
  | false => exact wpAny_execs_nil h₂
  | true =>
    refine wpAny_mono h₂ (fun f s₃ h₃ => ?_) PassesOwn.never
    cases f with
    | next =>
      obtain ⟨m₂, news₂, n', S₂, F₂, N₂, hn, J₂⟩ := h₃
      exact ⟨n', hn, WhileInv.mk m₂ news₂ S₂ F₂ N₂ J₂⟩
    | cont =>
      obtain ⟨m₂, news₂, n', S₂, F₂, N₂, hn, J₂⟩ := h₃
      exact ⟨n', hn, WhileInv.mk m₂ news₂ S₂ F₂ N₂ J₂⟩
    | brk => exact h₃
    | ret v => exact h₃

/-- how a turn of a comprehension ends -/
inductive CompOut (s : Shared) (h₀ : Heap) (L : Addr) (m : Str → Option Value) (D C I : Addr) (oD oI : Obj) (pin : List (Addr × Obj)) (K : List (Addr × Obj) → Prop) (s₂ : Shared) : Prop
  | mk (mC : Str → Option Value) (nw l : List (Addr × Obj)) (oC : Obj) (S : Sm s s₂) (F : Fr h₀ L s₂.heap m) (N : News h₀ L s₂.heap l) (q1 : (D, oD) ∈ l) (q2 : (C, oC) ∈ l) (q3 : (I, oI) ∈ l) (hC : s₂.heap.Ns C mC) (q4 : ∀ p ∈ pin, p ∈ l) (q5 : ∀ p ∈ nw, p ∈ l) (q6 : ∀ p ∈ nw, p.1 ≠ D ∧ p.1 ≠ C ∧ p.1 ≠ I) (hK : K nw) : CompOut s h₀ L m D C I oD oI pin K s₂
/-- a turn of a comprehension -/
def CompTurn (s : Shared) (prog : Program) (w : World) (A : Around) (cenv : Env) (elt target : Expr) (ifs : List Expr) (h₀ : Heap) (L : Addr) (m : Str → Option Value) (D C I : Addr) (pin : List (Addr × Obj)) (J J' : List Value → List (Addr × Obj) → Prop) (v : Value) : Prop :=
  ∀ ys nw₁ (s₁ : Shared) oI oC oD mC, J ys nw₁ → (∀ p ∈ nw₁, p.1 ≠ D ∧ p.1 ≠ C ∧ p.1 ≠ I) → oD.cls = .type "list" → (∃ fs, oI.data = .fields fs) → Sm s s₁ → Fr h₀ L s₁.heap m → News h₀ L s₁.heap ((D, oD) :: (C, oC) :: (I, oI) :: (pin ++ nw₁)) → s₁.heap.Ns C mC →
      wpAny (model prog w) A (assign target cenv v) (fun _ s₂ =>
        wpAny (model prog w) A (forIn ifs true fun c r => if r = true then do let ok ← isTrue c cenv (eval c cenv); pure (ForInStep.yield ok) else pure (ForInStep.yield r)) (fun ok s₃ =>
          if ok = true then wpAny (model prog w) A (eval elt cenv) (fun y s₄ => CompOut s h₀ L m D C I oD oI pin (J' (ys ++ [y])) s₄) (fun _ _ => False) s₃
          else CompOut s h₀ L m D C I oD oI pin (J' ys) s₃) (fun _ _ => False) s₂) (fun _ _ => False) s₁
/-- what stands when a comprehension is through -/
def CompDone (s : Shared) (h₀ : Heap) (L : Addr) (m : Str → Option Value) (pin : List (Addr × Obj)) (J : List Value → List (Addr × Obj) → Prop) (RR : Value → Addr → Result → Shared → Prop) : Prop :=
  ∀ D C ys nw₁ (s₁ : Shared) oC mC nD, D ≠ C → (∀ p ∈ pin ++ nw₁, p.1 ≠ D ∧ p.1 ≠ C) → J ys nw₁ → Sm s s₁ → Fr h₀ L s₁.heap m → News h₀ L s₁.heap ((C, oC) :: (D, listOf ys.toArray nD) :: (pin ++ nw₁)) → s₁.heap.Ns C mC → RR (.ref D) C (.ok .next) s₁
inductive CompInv (s : Shared) (h₀ : Heap) (L : Addr) (m : Str → Option Value) (D C I : Addr) (pin : List (Addr × Obj)) (n : Nat) (St : Nat → Heap → Prop) (J : Nat → List Value → List (Addr × Obj) → Prop) (k : Nat) (s' : Shared) : Prop
  | mk (nw₁ : List (Addr × Obj)) (oI oC : Obj) (nD : Nat) (ys : List Value) (i : Nat) (mC : Str → Option Value) (S : Sm s s') (st : St i s'.heap) (F : Fr h₀ L s'.heap m) (N : News h₀ L s'.heap ((D, listOf ys.toArray nD) :: (C, oC) :: (I, oI) :: (pin ++ nw₁)))
      (hn : ∀ p ∈ nw₁, p.1 ≠ D ∧ p.1 ≠ C ∧ p.1 ≠ I) (hC : s'.heap.Ns C mC) (hJ : J i ys nw₁) (hi : i ≤ n) (hk : k = n - i) : CompInv s h₀ L m D C I pin n St J k s'

theorem sameBut_frame {h h₁ : Heap} {X : Addr} {oX oX' : Obj} {pre post : List (Addr × Obj)} (F : Fr h₀ L h m) (N : News h₀ L h (pre ++ (X, oX) :: post)) (h1 : ∀ p ∈ pre, p.1 ≠ X) (h2 : ∀ p ∈ post, p.1 ≠ X) (hk : Heap.SameBut X h h₁)
    (ho : h₁.get? X = some oX') : Fr h₀ L h₁ m ∧ News h₀ L h₁ (pre ++ (X, oX') :: post) := by
  have hX := N _ (List.mem_append_right _ (.head _))
  refine ⟨⟨F.ns.sameBut hk (Ne.symm hX.2.1), fun b o e => hk.extBut b o ?_ (F.keep b o e), F.above⟩, news_set N h1 h2 hk ho⟩
  rintro rfl
  rw [hX.2.2] at e; cases e

theorem compLoop_any {elt target iter : Expr} {ifs : List Expr} {scope : Scope} {pos : Pos} {it acc : Value} {env : Env} {R : Result → Shared → Prop} (J : Nat → Shared → Prop)
    (turn : ∀ n s, J n s → wpAny (model prog w) A (pyNext it) (fun r s₁ => match r with
      | none => R (.ok .next) s₁
      | some v => wpAny (model prog w) A (letOwnedTupleGo target it v) (fun _ s₁' => wpAny (model prog w) A (assign target env v) (fun _ s₂ =>
          wpAny (model prog w) A (forIn ifs true fun c r => if r = true then do let ok ← isTrue c env (eval c env); pure (ForInStep.yield ok) else pure (ForInStep.yield r)) (fun ok s₃ =>
            if ok = true then wpAny (model prog w) A (eval elt env) (fun x s₄ =>
              wpAny (model prog w) A (call (.builtin "list.append") [acc, x]) (fun _ s₅ => ∃ m, m < n ∧ J m s₅) (fun _ _ => False) s₄) (fun _ _ => False) s₃
            else ∃ m, m < n ∧ J m s₃) (fun _ _ => False) s₂) (fun _ _ => False) s₁') (fun _ _ => False) s₁) (fun _ _ => False) s)
    (n : Nat) (h : J n s) : codeAny (model prog w) A (.compLoop (.ListComp elt [⟨target, iter, ifs, 0⟩] scope pos) 0 it acc env) R s := by
  refine codeAny_loop rfl J (fun n s hI => ?_) n h
  show wpAny _ A ((compTurn (.ListComp elt [⟨target, iter, ifs, 0⟩] scope pos) 0 it acc env).onRaise (fun x => do noteFrame x env; theTreesLotGoes x)) _ _ s
  refine wpAny_noted ?_
  rw [compTurn_list]
  refine wpAny_bind (wpAny_standAt (wpAny_bind (wpAny_mono (turn n s hI) (fun r s₁ h₁ => ?_) fun _ _ h' => h'.elim)))
  cases r with
  | none => exact wpAny_pure h₁
  | some v =>
    refine wpAny_bind (wpAny_mono h₁ (fun _ s₁' h₁' => ?_) fun _ _ h' => h'.elim)
    refine wpAny_bind (wpAny_mono h₁' (fun _ s₂ h₂ => wpAny_bind (wpAny_mono h₂ (fun ok s₃ h₃ => ?_) fun _ _ h' => h'.elim)) fun _ _ h' => h'.elim)
    cases ok with
    | false => exact wpAny_pure ⟨rfl, h₃⟩
    | true =>
      exact wpAny_bind (wpAny_bind (wpAny_mono h₃ (fun x s₄ h₄ => wpAny_bind (wpAny_mono h₄ (fun _ s₅ h₅ => wpAny_pure (wpAny_pure ⟨rfl, h₅⟩)) fun _ _ h' => h'.elim)) fun _ _ h' => h'.elim))

theorem four_mem {p a b c : Addr × Obj} {pin nw l : List (Addr × Obj)} (hq : p ∈ a :: b :: c :: (pin ++ nw)) (q1 : a ∈ l) (q2 : b ∈ l) (q3 : c ∈ l) (q4 : ∀ p ∈ pin, p ∈ l) (q5 : ∀ p ∈ nw, p ∈ l) : p ∈ l := by
  rcases List.mem_cons.mp hq with rfl | hq
  · exact q1
  rcases List.mem_cons.mp hq with rfl | hq
  · exact q2
  rcases List.mem_cons.mp hq with rfl | hq
  · exact q3
  exact (List.mem_append.mp hq).elim (q4 p) (q5 p)
theorem comp_loop {elt target iter : Expr} {ifs : List Expr} {scope : Scope} {pos : Pos} {D C : Addr} {cenv : Env} {mC : Str → Option Value} {oI₀ oC₀ : Obj} {nD : Nat} {R : Result → Shared → Prop} {s₀ : Shared} (S₀ : Sm s₀ s) (T : Iter prog w A h₀ pin I fp n P St)
    (J : Nat → List Value → List (Addr × Obj) → Prop) (st₀ : St 0 s.heap) (F₀ : Fr h₀ L s.heap m) (N₀ : News h₀ L s.heap ((D, listOf #[] nD) :: (C, oC₀) :: (I, oI₀) :: (pin ++ nw)))
    (hDC : D ≠ C) (hDI : D ≠ I) (hCI : C ≠ I) (hp : ∀ p ∈ pin, p.1 ≠ D ∧ p.1 ≠ C ∧ p.1 ≠ I) (hn₀ : ∀ p ∈ nw, p.1 ≠ D ∧ p.1 ≠ C ∧ p.1 ≠ I) (hC₀ : s.heap.Ns C mC) (hJ₀ : J 0 [] nw) (hsz : ∀ i ys nw, J i ys nw → ys.length ≤ sizeLine)
    (turn : ∀ i v, i < n → P i v → CompTurn s₀ prog w A cenv elt target ifs h₀ L m D C I pin (J i) (J (i + 1)) v)
    (done : ∀ ys nw₁ (s₁ : Shared) oC mC nD, J n ys nw₁ → (∀ p ∈ nw₁, p.1 ≠ D ∧ p.1 ≠ C ∧ p.1 ≠ I) → Sm s₀ s₁ → Fr h₀ L s₁.heap m → News h₀ L s₁.heap ((D, listOf ys.toArray nD) :: (C, oC) :: (pin ++ nw₁)) → s₁.heap.Ns C mC → R (.ok .next) s₁) :
    codeAny (model prog w) A (.compLoop (.ListComp elt [⟨target, iter, ifs, 0⟩] scope pos) 0 (.ref I) (.ref D) cenv) R s := by
  refine compLoop_any (CompInv s₀ h₀ L m D C I pin n St J) ?_ n (CompInv.mk nw oI₀ oC₀ nD [] 0 mC S₀ st₀ F₀ N₀ hn₀ hC₀ hJ₀ (Nat.zero_le _) rfl)
  rintro k s' ⟨nw₁, oI, oC, nD, ys, i, mC, S, st, F, N, hn, hC, hJ, hi, rfl⟩
  have hall : ∀ p ∈ pin ++ nw₁, p.1 ≠ D ∧ p.1 ≠ C ∧ p.1 ≠ I := fun p hq => (List.mem_append.mp hq).elim (hp p) (hn p)
  have pin3 : ∀ {a b c : Addr × Obj} {nw : List (Addr × Obj)}, ∀ p ∈ pin, p ∈ a :: b :: c :: (pin ++ nw) := fun p hq => .tail _ (.tail _ (.tail _ (List.mem_append_left _ hq)))
  have nw3 : ∀ {a b c : Addr × Obj}, ∀ p ∈ nw₁, p ∈ a :: b :: c :: (pin ++ nw₁) := fun p hq => .tail _ (.tail _ (.tail _ (List.mem_append_right _ hq)))
  have Nr : News h₀ L s'.heap ((I, oI) :: (D, listOf ys.toArray nD) :: (C, oC) :: (pin ++ nw₁)) := fun p hq => N p (four_mem hq (.tail _ (.tail _ (.head _))) (.head _) (.tail _ (.head _)) pin3 nw3)
  have hIr : ∀ p ∈ (D, listOf ys.toArray nD) :: (C, oC) :: (pin ++ nw₁), p.1 ≠ I := fun p hq => by
    rcases List.mem_cons.mp hq with rfl | hq
    · exact hDI
    · rcases List.mem_cons.mp hq with rfl | hq
      · exact hCI
      · exact (hall p hq).2.2
  by_cases hlt : i < n
  · refine T.W.item i _ _ _ hlt st fun v h₁ tk₁ hP st₁ hk => ?_
    refine hideG fun Gzq kzq => ?_
    obtain ⟨oI', nm, fs, ho, hc, hd, hnm⟩ := T.live _ _ st₁
    obtain ⟨F₁, N₁⟩ := next_frame F Nr hIr hk ho
    have N₁' : News h₀ L h₁ ((D, listOf ys.toArray nD) :: (C, oC) :: (I, oI') :: (pin ++ nw₁)) := fun p hq => N₁ p (four_mem hq (.tail _ (.head _)) (.tail _ (.tail _ (.head _))) (.head _) pin3 nw3)
    have hC₁ : h₁.Ns C mC := hC.at' fun o e => hk C o (by simpa using hCI) e
    refine kzq ?_
    clear kzq Gzq
    refine letGo_iter (s := { s' with heap := h₁, toks := tk₁ }) ho hc hd hnm ?_
    refine wpAny_mono (turn i v hlt hP ys nw₁ { s' with heap := h₁, toks := tk₁ } oI' oC (listOf ys.toArray nD) mC hJ hn rfl ⟨fs, hd⟩ S F₁ N₁' hC₁) (fun _ s₂ h₂ => ?_) (fun _ _ e => e.elim)
    refine wpAny_mono h₂ (fun ok s₃ h₃ => ?_) (fun _ _ e => e.elim)
    clear h₂ Nr hIr hall F N st hC ho hc hd
    cases ok with
    | false =>
      obtain ⟨mC', nw', l, oC', S', F', N', q1, q2, q3, hC', q4, q5, q6, hJ'⟩ := h₃
      exact ⟨n - (i + 1), by omega, CompInv.mk nw' oI' oC' nD ys (i + 1) mC' S' (T.keep st₁ F₁ N₁' F' N' (.tail _ (.tail _ (.head _))) q3 pin3 q4) F' (fun p hq => N' p (four_mem hq q1 q2 q3 q4 q5)) q6 hC' hJ' hlt rfl⟩
    | true =>
      refine wpAny_mono h₃ (fun y s₄ h₄ => ?_) (fun _ _ e => e.elim)
      refine hideG fun Gzq kzq => ?_
      obtain ⟨mC', nw', l, oC', S', F', N', q1, q2, q3, hC', q4, q5, q6, hJ'⟩ := h₄
      refine kzq ?_
      clear kzq Gzq
      have N'' : News h₀ L s₄.heap ([] ++ (D, listOf ys.toArray nD) :: ((C, oC') :: (I, oI') :: (pin ++ nw'))) := fun p hq => N' p (four_mem hq q1 q2 q3 q4 q5)
      have hrest : ∀ p ∈ (C, oC') :: (I, oI') :: (pin ++ nw'), p.1 ≠ D := fun p hq => by
        rcases List.mem_cons.mp hq with rfl | hq
        · exact Ne.symm hDC
        rcases List.mem_cons.mp hq with rfl | hq
        · exact Ne.symm hDI
        exact (List.mem_append.mp hq).elim (fun h => (hp p h).1) (fun h => (q6 p h).1)
      refine wpAny_list_append_plain (s := s₄) (hsz := by simpa using hsz _ _ _ hJ) ⟨nD, (N' _ q1).1⟩ fun h₅ hl₅ hs₅ => ?_
      obtain ⟨n₅, ho₅⟩ := hl₅
      obtain ⟨F₅, N₅⟩ := sameBut_frame F' N'' (fun p hq => nomatch hq) hrest hs₅ ho₅
      have e : ys.toArray.push y = (ys ++ [y]).toArray := by simp
      have N₆ : News h₀ L h₅ ((D, listOf (ys ++ [y]).toArray n₅) :: (C, oC') :: (I, oI') :: (pin ++ nw')) := e ▸ N₅
      exact ⟨n - (i + 1), by omega, CompInv.mk nw' oI' oC' n₅ (ys ++ [y]) (i + 1) mC' S' (T.keep (T.keep st₁ F₁ N₁' F' N' (.tail _ (.tail _ (.head _))) q3 pin3 q4) F' N' F₅ N₆ q3 (.tail _ (.tail _ (.head _))) q4 pin3) F₅ N₆ q6 (hC'.sameBut hs₅ (Ne.symm hDC)) hJ' hlt rfl⟩
  · have hin : i = n := by omega
    subst hin
    refine T.W.done _ _ _ st fun h₁ tk₁ hk => ?_
    have hL : L ≠ I := fun e => (Nr _ (.head _)).2.1 e.symm
    have hI0 := (Nr _ (.head _)).2.2
    refine done ys nw₁ _ oC mC nD hJ hn S ⟨F.ns.at' fun o e => hk L o (by simpa using hL) e, fun b o e => hk b o ?_ (F.keep b o e), F.above⟩
      (fun p hq => ⟨hk _ _ (by simpa using hIr p hq) (Nr p (.tail _ hq)).1, (Nr p (.tail _ hq)).2⟩) (hC.at' fun o e => hk C o (by simpa using hCI) e)
    intro hb
    rw [List.mem_singleton.mp hb] at e
    rw [hI0] at e; cases e

/-- the block that a comprehension runs, behind its iterator -/
def CompBlock (prog : Program) (w : World) (A : Around) (env : Env) (e : Expr) (scope : Scope) (cl : List (Str × Addr)) (E : Value → Shared → Prop) (RR : Value → Addr → Result → Shared → Prop) (it : Value) (s₂ : Shared) : Prop :=
  wpAny (model prog w) A (newList []) (fun acc s₃ => wpAny (model prog w) A (newFunctionEnv scope env.globals cl [] env.qual none .none (some env)) (fun cenv s₄ =>
      codeAny (model prog w) A (.compStart e 0 it acc { cenv with scope := relabel scope env }) (RR acc cenv.locals) s₄) E s₃) E s₂

theorem comp_block {elt target iter : Expr} {ifs : List Expr} {scope : Scope} {cl : List (Str × Addr)} {pos : Pos} {oI₀ : Obj} {RR : Value → Addr → Result → Shared → Prop} {s₀ : Shared} (S₀ : Sm s₀ s) (T : Iter prog w A h₀ pin I fp n P St)
    (hcell : ∀ y ∈ scope.names, y.2 ≠ .cell) (hkind : scope.kind = .function)
    (J : Nat → List Value → List (Addr × Obj) → Prop) (st₀ : St 0 s.heap) (F₀ : Fr h₀ L s.heap m) (N₀ : News h₀ L s.heap ((I, oI₀) :: (pin ++ nw))) (hI : ∀ p ∈ pin ++ nw, p.1 < I) (hJ₀ : J 0 [] nw) (hsz : ∀ i ys nw, J i ys nw → ys.length ≤ sizeLine)
    (turn : ∀ D C i v, I < D → D < C → i < n → P i v → CompTurn s₀ prog w A (compEnvC scope cl C env) elt target ifs h₀ L m D C I pin (J i) (J (i + 1)) v)
    (done : CompDone s₀ h₀ L m pin (J n) RR) :
    CompBlock prog w A env (.ListComp elt [⟨target, iter, ifs, 0⟩] scope pos) scope cl E RR (.ref I) s := by
  unfold CompBlock
  have hIs : I < s.heap.objs.size := Heap.lt_size (N₀ _ (.head _)).1
  refine wpAny_newObj_type (wpAny_newFunctionEnv hcell (by intro y hy; simp at hy) (fun h₁ hns₁ hsb₁ => ?_) hkind)
  dsimp only at hns₁ hsb₁ ⊢
  have F₁ : Fr h₀ L (s.heap.push { cls := .type "list", data := .seq ([] : List Value).toArray }) m := F₀.push _
  have N₁ := N₀.push F₀ { cls := .type "list", data := .seq ([] : List Value).toArray }
  generalize hH2 : s.heap.push { cls := .type "list", dict := none, data := .seq ([] : List Value).toArray } = H2 at hns₁ hsb₁ F₁ N₁ ⊢
  have hC : H2.objs.size = s.heap.objs.size + 1 := by rw [← hH2, Heap.size_push]
  have F₂ : Fr h₀ L (H2.push { cls := .type "dict", data := .dict #[] }) m := F₁.push _
  have N₂ := N₁.push F₁ { cls := .type "dict", data := .dict #[] }
  obtain ⟨oC, es, ep, hoC, hrest⟩ := id hns₁
  have hltD : ∀ p ∈ (s.heap.objs.size, ({ cls := .type "list", data := .seq ([] : List Value).toArray } : Obj)) :: (I, oI₀) :: (pin ++ nw), p.1 < H2.objs.size := fun p hq => Heap.lt_size (N₁ p hq).1
  obtain ⟨F₃, N₃⟩ := sameBut_frame (pre := []) F₂ N₂ (fun p hq => nomatch hq) (fun p hq => Nat.ne_of_lt (hltD p hq)) hsb₁ hoC
  have hlt0 : ∀ p ∈ pin ++ nw, p.1 < s.heap.objs.size := fun p hq => Heap.lt_size (N₀ p (.tail _ hq)).1
  have hDC : s.heap.objs.size < H2.objs.size := by rw [hC]; exact Nat.lt_succ_self _
  have N₄ : News h₀ L h₁ ((s.heap.objs.size, listOf #[] 0) :: (H2.objs.size, oC) :: (I, oI₀) :: (pin ++ nw)) := fun p hq => N₃ p (by
    simp only [List.nil_append, List.mem_cons] at hq ⊢
    rcases hq with h | h | h | h
    · exact .inr (.inl h)
    · exact .inl h
    · exact .inr (.inr (.inl h))
    · exact .inr (.inr (.inr h)))
  have st₁ : St 0 h₁ := T.keep st₀ F₀ N₀ F₃ N₄ (.head _) (.tail _ (.tail _ (.head _))) (fun p hq => .tail _ (List.mem_append_left _ hq)) (fun p hq => .tail _ (.tail _ (.tail _ (List.mem_append_left _ hq))))
  have h3 : ∀ p ∈ pin ++ nw, p.1 ≠ s.heap.objs.size ∧ p.1 ≠ H2.objs.size ∧ p.1 ≠ I := fun p hq => ⟨Nat.ne_of_lt (hlt0 p hq), Nat.ne_of_lt (Nat.lt_trans (hlt0 p hq) hDC), Nat.ne_of_lt (hI p hq)⟩
  have loop : codeAny (model prog w) A (.compLoop (.ListComp elt [⟨target, iter, ifs, 0⟩] scope pos) 0 (.ref I) (.ref s.heap.objs.size) (compEnvC scope cl H2.objs.size env)) (RR (.ref s.heap.objs.size) H2.objs.size) { s with heap := h₁, toks := s.toks + ([] : List (Str × Value)).length } := by
    refine comp_loop (s := { s with heap := h₁, toks := s.toks + ([] : List (Str × Value)).length }) (s₀ := s₀) S₀ T J st₁ F₃ N₄ (Nat.ne_of_lt hDC) (Nat.ne_of_gt hIs) (Nat.ne_of_gt (Nat.lt_trans hIs hDC)) (fun p hq => h3 p (List.mem_append_left _ hq)) (fun p hq => h3 p (List.mem_append_right _ hq)) hns₁ hJ₀ hsz
      (fun i v hi hP => turn _ _ i v hIs hDC hi hP) ?_
    intro ys nw₁ s₁ oC mC nD hJ hn S F N hCn
    refine done _ _ ys nw₁ s₁ oC mC nD (Nat.ne_of_lt hDC) (fun p hq => ?_) hJ S F (fun p hq => N p ?_) hCn
    · rcases List.mem_append.mp hq with hq | hq
      · exact ⟨(h3 p (List.mem_append_left _ hq)).1, (h3 p (List.mem_append_left _ hq)).2.1⟩
      · exact ⟨(hn p hq).1, (hn p hq).2.1⟩
    · simp only [List.mem_cons] at hq ⊢
      rcases hq with h | h | h
      · exact .inr (.inl h)
      · exact .inl h
      · exact .inr (.inr h)
  exact codeAny_compStart_list loop (T.W.self 0 _ _ _ st₁ loop)

/-- a comprehension that is an expression -/
theorem comp_eval {elt iter target : Expr} {ifs : List Expr} {scope : Scope} {cl : List (Str × Addr)} {pos : Pos} {Q : Value → Shared → Prop} (hclos : closureFor scope env = pure cl) (hkind : scope.kind = .function)
    (hnames : ∀ y ∈ scope.names, y.2 = .local → scope.names.lookup y.1 = some .local)
    (h : wpAny (model prog w) A (eval iter env) (fun xv s₁ => wpAny (model prog w) A (pyIter xv) (fun it s₂ => CompBlock prog w A env (.ListComp elt [⟨target, iter, ifs, 0⟩] scope pos) scope cl E (fun acc C => compPost (model prog w) A E none Q acc C) it s₂) E s₁) E s)
    (hs : ∀ x, foldedSetIterable iter env x = pure x := by intro _; rfl) :
    wpAny (model prog w) A (eval (.ListComp elt [⟨target, iter, ifs, 0⟩] scope pos) env) Q E s := by
  rw [eval_ListComp]
  exact wpAny_comprehension_free (use := none) rfl hs hclos hkind hnames h
theorem comp_assign {elt iter target : Expr} {ifs : List Expr} {scope : Scope} {cl : List (Str × Addr)} {pos spos py : Pos} {y : Str} {Q : Flow → Shared → Prop}
    (hsw : swapsWith (.ListComp elt [⟨target, iter, ifs, 0⟩] scope pos) (some (.Name y py)) spos.line env = pure true) (hclos : closureFor scope env = pure cl) (hkind : scope.kind = .function)
    (hnames : ∀ y ∈ scope.names, y.2 = .local → scope.names.lookup y.1 = some .local)
    (h : wpAny (model prog w) A (eval iter env) (fun xv s₁ => wpAny (model prog w) A (pyIter xv) (fun it s₂ => CompBlock prog w A env (.ListComp elt [⟨target, iter, ifs, 0⟩] scope pos) scope cl E (fun acc C => compPost (model prog w) A E (some (assign (.Name y py) env)) (fun _ s' => Q .next s') acc C) it s₂) E s₁) E s)
    (hs : ∀ x, foldedSetIterable iter env x = pure x := by intro _; rfl) :
    wpAny (model prog w) A (exec (.Assign [.Name y py] (.ListComp elt [⟨target, iter, ifs, 0⟩] scope pos) spos) env) Q E s := by
  rw [exec_Assign_Name_used _ _ _ _ hsw]
  refine wpAny_bind (wpAny_standAt (wpAny_bind ?_))
  show wpAny _ A (do let _ ← comprehension (.ListComp elt [⟨target, iter, ifs, 0⟩] scope pos) scope env _ (newList []) false (eval iter env) (some (assign (.Name y py) env))) _ _ s
  exact wpAny_bind (wpAny_mono (wpAny_comprehension_free (use := some (assign (.Name y py) env)) (Q := fun _ s' => Q .next s') rfl hs hclos hkind hnames h) (fun _ s' hq => wpAny_pure (wpAny_pure hq)) fun _ _ e => e)

/-- what a block's end asks, told of the outer frame -/
theorem done_eval {Q : Value → Shared → Prop} {D C : Addr} {oC oD : Obj} {mC : Str → Option Value} {rest : List (Addr × Obj)} (hDC : D ≠ C) (hr : ∀ p ∈ rest, p.1 ≠ D ∧ p.1 ≠ C) (F : Fr h₀ L s.heap m)
    (N : News h₀ L s.heap ((C, oC) :: (D, oD) :: rest)) (hC : s.heap.Ns C mC) (k : ∀ s₁ : Shared, Sm s s₁ → Fr h₀ L s₁.heap m → News h₀ L s₁.heap ((D, oD) :: rest) → Q (.ref D) s₁) :
    compPost (model prog w) A E none Q (.ref D) C (.ok .next) s := by
  refine ⟨mC, hC, fun h' hs => ?_⟩
  have hX := N _ (.head _)
  refine k _ ⟨rfl, rfl⟩ ⟨F.ns.sameBut hs (Ne.symm hX.2.1), fun b o e => hs.extBut b o ?_ (F.keep b o e), F.above⟩ fun p hq => ?_
  · rintro rfl
    rw [hX.2.2] at e; cases e
  · refine ⟨hs.extBut _ _ ?_ (N p (.tail _ hq)).1, (N p (.tail _ hq)).2⟩
    rcases List.mem_cons.mp hq with rfl | hq
    · exact hDC
    · exact (hr p hq).2
theorem done_assign {Q : Flow → Shared → Prop} {y : Str} {py : Pos} {D C : Addr} {oC oD : Obj} {mC : Str → Option Value} {rest : List (Addr × Obj)} (hL : env.locals = L) (hy : env.kindOf y = some .local)
    (hp : (env.scope.kind == .class || (env.scope.kind == .module && env.locals != env.globals)) = false) (hDC : D ≠ C) (hr : ∀ p ∈ rest, p.1 ≠ D ∧ p.1 ≠ C) (F : Fr h₀ L s.heap m)
    (N : News h₀ L s.heap ((C, oC) :: (D, oD) :: rest)) (hC : s.heap.Ns C mC) (k : ∀ s₁ : Shared, Sm s s₁ → Fr h₀ L s₁.heap (fun z => if z = y then some (.ref D) else m z) → News h₀ L s₁.heap ((D, oD) :: rest) → Q .next s₁) :
    compPost (model prog w) A E (some (assign (.Name y py) env)) (fun _ s' => Q .next s') (.ref D) C (.ok .next) s := by
  subst hL
  have hX := N _ (.head _)
  show wpAny _ A (assign (.Name y py) env (.ref D)) _ _ _
  refine wpAny_assign_Name (wpAny_storeName_local hy F.ns (fun h₂ hn₂ hs₂ => ?_) hp)
  have F₂ : Fr h₀ env.locals h₂ (fun z => if z = y then some (.ref D) else m z) := F.set hn₂ hs₂
  have N₂ : News h₀ env.locals h₂ ((C, oC) :: (D, oD) :: rest) := N.set hs₂
  refine ⟨mC, hC.sameBut hs₂ hX.2.1, fun h₃ hs₃ => ?_⟩
  refine k _ ⟨rfl, rfl⟩ ⟨F₂.ns.sameBut hs₃ (Ne.symm hX.2.1), fun b o e => hs₃.extBut b o ?_ (F₂.keep b o e), F₂.above⟩ fun p hq => ?_
  · rintro rfl
    rw [hX.2.2] at e; cases e
  · refine ⟨hs₃.extBut _ _ ?_ (N₂ p (.tail _ hq)).1, (N₂ p (.tail _ hq)).2⟩
    rcases List.mem_cons.mp hq with rfl | hq
    · exact hDC
    · exact (hr p hq).2

theorem comp_list {elt target iter : Expr} {ifs : List Expr} {scope : Scope} {cl : List (Str × Addr)} {pos : Pos} {RR : Value → Addr → Result → Shared → Prop} {l : Addr} {vs : List Value} (hh : A.handled = none) (hl : s.heap.IsList l vs.toArray) (hin : (∃ o, h₀.get? l = some o) ∨ ∃ o, (l, o) ∈ pin)
    (hcell : ∀ y ∈ scope.names, y.2 ≠ .cell) (hkind : scope.kind = .function)
    (J : Nat → List Value → List (Addr × Obj) → Prop) (F₀ : Fr h₀ L s.heap m) (N₀ : News h₀ L s.heap (pin ++ nw)) (hJ₀ : J 0 [] nw) (hsz : ∀ i ys nw, J i ys nw → ys.length ≤ sizeLine)
    (turn : ∀ D C I i v, (∀ p ∈ pin ++ nw, p.1 < I) → I < D → D < C → vs[i]? = some v → CompTurn s prog w A (compEnvC scope cl C env) elt target ifs h₀ L m D C I pin (J i) (J (i + 1)) v)
    (done : CompDone s h₀ L m pin (J vs.length) RR) :
    wpAny (model prog w) A (pyIter (.ref l)) (fun it s₂ => CompBlock prog w A env (.ListComp elt [⟨target, iter, ifs, 0⟩] scope pos) scope cl E RR it s₂) E s := by
  have hlt : ∀ p ∈ pin ++ nw, p.1 < s.heap.objs.size := fun p hp => Heap.lt_size (N₀ p hp).1
  have hne : l ≠ s.heap.objs.size := by
    obtain ⟨o, ho, _⟩ := hl
    exact Nat.ne_of_lt (Heap.lt_size ho)
  refine wpAny_pyIter_list hl ?_
  refine comp_block (s₀ := s) (s := { s with heap := s.heap.push { cls := .type "list_iterator", data := .fields #[.ref l, .int 0 0] } }) (I := s.heap.objs.size) (oI₀ := { cls := .type "list_iterator", data := .fields #[.ref l, .int 0 0] }) ⟨rfl, rfl⟩ (Iter.list hh s.heap.objs.size l hne vs hin) hcell hkind J
    ⟨⟨_, Heap.get?_push_size _ rfl, rfl, rfl⟩, hl.at fun o e => Heap.get?_push_of_some _ e⟩ (F₀.push _) (N₀.push F₀ _) hlt hJ₀ hsz (fun D C i v h1 h2 _ hP => turn D C _ i v hlt h1 h2 hP) done

theorem comp_tuple {elt target iter : Expr} {ifs : List Expr} {scope : Scope} {cl : List (Str × Addr)} {pos : Pos} {RR : Value → Addr → Result → Shared → Prop} {l : Addr} {vs : List Value} (hh : A.handled = none) (hl : s.heap.IsTuple l vs.toArray) (hin : (∃ o, h₀.get? l = some o) ∨ ∃ o, (l, o) ∈ pin)
    (hcell : ∀ y ∈ scope.names, y.2 ≠ .cell) (hkind : scope.kind = .function)
    (J : Nat → List Value → List (Addr × Obj) → Prop) (F₀ : Fr h₀ L s.heap m) (N₀ : News h₀ L s.heap (pin ++ nw)) (hJ₀ : J 0 [] nw) (hsz : ∀ i ys nw, J i ys nw → ys.length ≤ sizeLine)
    (turn : ∀ D C I i v, (∀ p ∈ pin ++ nw, p.1 < I) → I < D → D < C → vs[i]? = some v → CompTurn s prog w A (compEnvC scope cl C env) elt target ifs h₀ L m D C I pin (J i) (J (i + 1)) v)
    (done : CompDone s h₀ L m pin (J vs.length) RR) :
    wpAny (model prog w) A (pyIter (.ref l)) (fun it s₂ => CompBlock prog w A env (.ListComp elt [⟨target, iter, ifs, 0⟩] scope pos) scope cl E RR it s₂) E s := by
  have hlt : ∀ p ∈ pin ++ nw, p.1 < s.heap.objs.size := fun p hp => Heap.lt_size (N₀ p hp).1
  have hne : l ≠ s.heap.objs.size := by
    obtain ⟨o, ho, _⟩ := hl
    exact Nat.ne_of_lt (Heap.lt_size ho)
  refine wpAny_pyIter_tuple hl ?_
  refine comp_block (s₀ := s) (s := { s with heap := s.heap.push { cls := .type "tuple_iterator", data := .fields #[.ref l, .int 0 0] } }) (I := s.heap.objs.size) (oI₀ := { cls := .type "tuple_iterator", data := .fields #[.ref l, .int 0 0] }) ⟨rfl, rfl⟩ (Iter.tuple hh s.heap.objs.size l hne vs hin) hcell hkind J
    ⟨⟨_, Heap.get?_push_size _ rfl, rfl, rfl⟩, hl.at fun o e => Heap.get?_push_of_some _ e⟩ (F₀.push _) (N₀.push F₀ _) hlt hJ₀ hsz (fun D C i v h1 h2 _ hP => turn D C _ i v hlt h1 h2 hP) done

theorem comp_range {elt target iter : Expr} {ifs : List Expr} {scope : Scope} {cl : List (Str × Addr)} {pos : Pos} {RR : Value → Addr → Result → Shared → Prop} {r : Addr} {a b : Int} {n : Nat} {t u v : Tok} (hh : A.handled = none)
    (hr : IsRange s.heap r a b 1 t u v) (hsmall : Builtin.Range.small a b 1 = true) (hn : Builtin.Range.rangeSize a b 1 = (n : Int)) (hcell : ∀ y ∈ scope.names, y.2 ≠ .cell) (hkind : scope.kind = .function)
    (J : Nat → List Value → List (Addr × Obj) → Prop) (F₀ : Fr h₀ L s.heap m) (N₀ : News h₀ L s.heap (pin ++ nw)) (hJ₀ : J 0 [] nw) (hsz : ∀ i ys nw, J i ys nw → ys.length ≤ sizeLine)
    (turn : ∀ D C I i tv, (∀ p ∈ pin ++ nw, p.1 < I) → I < D → D < C → i < n → CompTurn s prog w A (compEnvC scope cl C env) elt target ifs h₀ L m D C I pin (J i) (J (i + 1)) (.int (a + (i : Nat) * 1) tv))
    (done : CompDone s h₀ L m pin (J n) RR) :
    wpAny (model prog w) A (pyIter (.ref r)) (fun it s₂ => CompBlock prog w A env (.ListComp elt [⟨target, iter, ifs, 0⟩] scope pos) scope cl E RR it s₂) E s := by
  have hlt : ∀ p ∈ pin ++ nw, p.1 < s.heap.objs.size := fun p hp => Heap.lt_size (N₀ p hp).1
  refine wpAny_pyIter_range hr hsmall ?_
  rw [hn]
  refine comp_block (s₀ := s) (s := { s with heap := s.heap.push { cls := .type "range_iterator", data := .fields #[rawInt a, rawInt n, rawInt 1] } }) (I := s.heap.objs.size) (oI₀ := { cls := .type "range_iterator", data := .fields #[rawInt a, rawInt n, rawInt 1] }) ⟨rfl, rfl⟩ (Iter.range hh s.heap.objs.size a n) hcell hkind J
    (by show IsRangeIter _ _ _ _ _; simpa using Heap.get?_push_size _ rfl) (F₀.push _) (N₀.push F₀ _) hlt hJ₀ hsz (fun D C i v h1 h2 hi hP => by obtain ⟨tv, rfl⟩ := hP; exact turn D C _ i tv hlt h1 h2 hi) done

/-- a turn's end where the ledger of its own stays empty -/
theorem comp_end {K : List (Addr × Obj) → Prop} {D C : Addr} {oD oC oI : Obj} {mC : Str → Option Value} {h2 : Heap} (hC2 : h2.Ns C mC) (hO : h2.get? C = some oC) {s₀ : Shared} (S : Sm s₀ s) (F : Fr h₀ L s.heap m) (N : News h₀ L s.heap ((D, oD) :: (C, oC) :: (I, oI) :: (pin ++ []))) (hK : K []) :
    CompOut s₀ h₀ L m D C I oD oI pin K s :=
  CompOut.mk mC [] _ oC S F N (.head _) (.tail _ (.head _)) (.tail _ (.tail _ (.head _))) (hC2.at' fun o e => by rw [hO] at e; cases e; exact (N _ (.tail _ (.head _))).1)
    (fun q hq => .tail _ (.tail _ (.tail _ (List.mem_append_left _ hq)))) (fun _ h => nomatch h) (fun _ h => nomatch h) hK
theorem store_comp {scope : Scope} {cl : List (Str × Addr)} {x : Str} {v : Value} {D C : Addr} {oD oC : Obj} {rest : List (Addr × Obj)} {mC : Str → Option Value} {Q : Unit → Shared → Prop} (hx : (compEnvC scope cl C env).kindOf x = some .local) (hkind : scope.kind = .function)
    (F : Fr h₀ L s.heap m) (N : News h₀ L s.heap ((D, oD) :: (C, oC) :: rest)) (hDC : D ≠ C) (hr : ∀ p ∈ rest, p.1 ≠ C) (hC : s.heap.Ns C mC)
    (k : ∀ (s₁ : Shared) oC', Sm s s₁ → Fr h₀ L s₁.heap m → News h₀ L s₁.heap ((D, oD) :: (C, oC') :: rest) → s₁.heap.Ns C (fun z => if z = x then some v else mC z) → Q () s₁) :
    wpAny (model prog w) A (storeName (compEnvC scope cl C env) x v) Q E s := by
  refine wpAny_storeName_local hx hC (fun h₂ hn₂ hs₂ => ?_) (by show (scope.kind == .class || (scope.kind == .module && _)) = false; rw [hkind]; rfl)
  obtain ⟨oC', es, ep, ho, hrest⟩ := id hn₂
  obtain ⟨F', N'⟩ := sameBut_frame (pre := [(D, oD)]) F N (fun p hq => by rw [List.mem_singleton.mp hq]; exact hDC) hr hs₂ ho
  exact k _ oC' ⟨rfl, rfl⟩ F' N' hn₂
theorem assign_comp {scope : Scope} {cl : List (Str × Addr)} {x : Str} {px : Pos} {v : Value} {D C : Addr} {oD oC : Obj} {rest : List (Addr × Obj)} {mC : Str → Option Value} {Q : Unit → Shared → Prop} (hx : (compEnvC scope cl C env).kindOf x = some .local) (hkind : scope.kind = .function)
    (F : Fr h₀ L s.heap m) (N : News h₀ L s.heap ((D, oD) :: (C, oC) :: rest)) (hDC : D ≠ C) (hr : ∀ p ∈ rest, p.1 ≠ C) (hC : s.heap.Ns C mC)
    (k : ∀ (s₁ : Shared) oC', Sm s s₁ → Fr h₀ L s₁.heap m → News h₀ L s₁.heap ((D, oD) :: (C, oC') :: rest) → s₁.heap.Ns C (fun z => if z = x then some v else mC z) → Q () s₁) :
    wpAny (model prog w) A (assign (.Name x px) (compEnvC scope cl C env) v) Q E s := wpAny_assign_Name (store_comp hx hkind F N hDC hr hC k)

theorem append_led {lst : Addr} {ys : List Value} {nD : Nat} {y : Value} {Q : Value → Shared → Prop} {l l' : List (Addr × Obj)} (F : Fr h₀ L s.heap m) (N : News h₀ L s.heap l) (hm : (lst, listOf ys.toArray nD) ∈ l) (hl : ∀ p ∈ l', p ∈ l ∧ p.1 ≠ lst)
    (hsz : ys.length ≤ sizeLine) (k : ∀ (s₁ : Shared) n', Sm s s₁ → Fr h₀ L s₁.heap m → News h₀ L s₁.heap ((lst, listOf (ys ++ [y]).toArray n') :: l') → Q .none s₁) :
    wpAny (model prog w) A (call (.builtin "list.append") [.ref lst, y]) Q E s := by
  refine wpAny_list_append_plain (hsz := by simpa using hsz) ⟨nD, (N _ hm).1⟩ fun h₅ hl₅ hs₅ => ?_
  obtain ⟨n₅, ho₅⟩ := hl₅
  have N' : News h₀ L s.heap ([] ++ (lst, listOf ys.toArray nD) :: l') := fun p hp => by
    rcases List.mem_cons.mp hp with rfl | hp
    · exact N _ hm
    · exact N _ (hl p hp).1
  obtain ⟨F₅, N₅⟩ := sameBut_frame F N' (fun p hq => nomatch hq) (fun p hq => (hl p hq).2) hs₅ ho₅
  refine k _ n₅ ⟨rfl, rfl⟩ F₅ ?_
  have e : ys.toArray.push y = (ys ++ [y]).toArray := by simp
  rw [← e]; exact N₅
theorem ne_of_cls {h : Heap} {l : List (Addr × Obj)} {a b : Addr} {o o' : Obj} (N : News h₀ L h l) (h1 : (a, o) ∈ l) (h2 : (b, o') ∈ l) (hc : o.cls ≠ o'.cls) : a ≠ b := by
  rintro rfl
  have e1 := (N _ h1).1
  have e2 := (N _ h2).1
  rw [e1] at e2
  exact hc (congrArg Obj.cls (Option.some.inj e2))
theorem ne_of_data {h : Heap} {l : List (Addr × Obj)} {a b : Addr} {o o' : Obj} (N : News h₀ L h l) (h1 : (a, o) ∈ l) (h2 : (b, o') ∈ l) (hc : o.data ≠ o'.data) : a ≠ b := by
  rintro rfl
  have e1 := (N _ h1).1
  have e2 := (N _ h2).1
  rw [e1] at e2
  exact hc (congrArg Obj.data (Option.some.inj e2))
theorem tup_ne_list {h : Heap} {l : List (Addr × Obj)} {a b : Addr} {xs ys : Array Value} {n k : Nat} (N : News h₀ L h l) (h1 : (a, ({ cls := .type "tuple", data := .seq xs n } : Obj)) ∈ l) (h2 : (b, listOf ys k) ∈ l) : a ≠ b :=
  ne_of_cls N h1 h2 (by intro h; exact absurd (Value.type.inj h) (by decide))
theorem tup_ne_it {h : Heap} {l : List (Addr × Obj)} {a b : Addr} {xs fs : Array Value} {n : Nat} {oI : Obj} (N : News h₀ L h l) (h1 : (a, ({ cls := .type "tuple", data := .seq xs n } : Obj)) ∈ l) (h2 : (b, oI) ∈ l) (hI : oI.data = .fields fs) : a ≠ b :=
  ne_of_data N h1 h2 (by rw [hI]; intro h; cases h)
theorem ns_led {h h' : Heap} {l l' : List (Addr × Obj)} {C : Addr} {oC : Obj} {mC : Str → Option Value} (hC : h'.Ns C mC) (N' : News h₀ L h' l') (m' : (C, oC) ∈ l') (N : News h₀ L h l) (mm : (C, oC) ∈ l) : h.Ns C mC :=
  hC.at' fun o e => by
    have e1 := (N' _ m').1
    rw [e1] at e; cases e
    exact (N _ mm).1
theorem cell_led {h : Heap} {l : List (Addr × Obj)} {c : Addr} {o : Obj} {v : Value} (N : News h₀ L h l) (hm : (c, o) ∈ l) (hd : o.data = .cell (some v)) : h.IsCell c (some v) := ⟨o, (N _ hm).1, hd⟩
end
end
end Mine

namespace Mine
section
theorem lim_i {a i j k n : Nat} (h : a + k < n) (e : Nat.ble (i + j) k = true) : a + i + j < n := by
  have := Nat.le_of_ble_eq_true e
  omega
theorem lim_2 {a i i' j k n : Nat} (h : a + k < n) (e : Nat.ble (i + i' + j) k = true) : a + i + i' + j < n := by
  have := Nat.le_of_ble_eq_true e
  omega
theorem lim_0 {a j k n : Nat} (h : a + k < n) (e : Nat.ble j k = true) : a + j < n := by
  have := Nat.le_of_ble_eq_true e
  omega
theorem lim_n {a k n : Nat} (h : a + k < n) : a < n := by omega
theorem two_mono {j k : Nat} (e : Nat.ble j k = true) : (2 : Int) ^ j ≤ 2 ^ k := by
  have h := Nat.pow_le_pow_right (n := 2) (by decide) (Nat.le_of_ble_eq_true e)
  have := Int.ofNat_le.mpr h
  simpa using this
theorem wide {x : Int} {j k : Nat} (h : -(2 ^ j) < x ∧ x < 2 ^ j) (e : Nat.ble j k = true) : -(2 ^ k) < x ∧ x < 2 ^ k := by
  have := two_mono e
  generalize (2 : Int) ^ j = a at *
  generalize (2 : Int) ^ k = b at *
  omega
theorem wide_p {x : Int} {j k : Nat} (h : 0 < x ∧ x < 2 ^ j) (e : Nat.ble j k = true) : 0 < x ∧ x < 2 ^ k := by
  have := two_mono e
  generalize (2 : Int) ^ j = a at *
  generalize (2 : Int) ^ k = b at *
  omega
/-- a number between two bounds; the bounds' own comparisons are computed -/
def Iv (a b x : Int) : Prop := a ≤ x ∧ x ≤ b
def ivc (lo a b hi : Int) : Bool := decide (lo ≤ a) && decide (b ≤ hi)
theorem iv_le {a b x : Int} (h : a ≤ x ∧ x ≤ b) : Iv a b x := h
theorem iv_le2 {a b x : Int} (h1 : a ≤ x) (h2 : x ≤ b) : Iv a b x := ⟨h1, h2⟩
theorem iv_lf {a b x : Int} (h : a ≤ x ∧ x < b) : Iv a (b - 1) x := ⟨h.1, by have := h.2; omega⟩
theorem iv_ff {a b x : Int} (h : a < x ∧ x < b) : Iv (a + 1) (b - 1) x := ⟨by have := h.1; omega, by have := h.2; omega⟩
theorem iv_lit {n : Int} : Iv n n n := ⟨Int.le_refl _, Int.le_refl _⟩
theorem iv_eq {a b x y : Int} (h : x = y) (k : Iv a b y) : Iv a b x := h ▸ k
theorem iv_add {a b c d x y : Int} (h : Iv a b x) (k : Iv c d y) : Iv (a + c) (b + d) (x + y) := ⟨Int.add_le_add h.1 k.1, Int.add_le_add h.2 k.2⟩
theorem iv_sub {a b c d x y : Int} (h : Iv a b x) (k : Iv c d y) : Iv (a - d) (b - c) (x - y) := ⟨Int.sub_le_sub h.1 k.2, Int.sub_le_sub h.2 k.1⟩
theorem iv_neg {a b x : Int} (h : Iv a b x) : Iv (-b) (-a) (-x) := ⟨Int.neg_le_neg h.2, Int.neg_le_neg h.1⟩
theorem iv_cm {a b c x : Int} (h : Iv a b x) (e : decide (0 ≤ c) = true) : Iv (c * a) (c * b) (c * x) := ⟨Int.mul_le_mul_of_nonneg_left h.1 (of_decide_eq_true e), Int.mul_le_mul_of_nonneg_left h.2 (of_decide_eq_true e)⟩
theorem iv_mc {a b c x : Int} (h : Iv a b x) (e : decide (0 ≤ c) = true) : Iv (a * c) (b * c) (x * c) := ⟨Int.mul_le_mul_of_nonneg_right h.1 (of_decide_eq_true e), Int.mul_le_mul_of_nonneg_right h.2 (of_decide_eq_true e)⟩
theorem ivc_1 {lo a b hi : Int} (e : ivc lo a b hi = true) : lo ≤ a ∧ b ≤ hi := by
  unfold ivc at e
  obtain ⟨h1, h2⟩ := (Bool.and_eq_true _ _).mp e
  exact ⟨of_decide_eq_true h1, of_decide_eq_true h2⟩
theorem iv_tt {lo hi a b x : Int} (h : Iv a b x) (e : ivc lo a b hi = true) : lo ≤ x ∧ x ≤ hi := ⟨Int.le_trans (ivc_1 e).1 h.1, Int.le_trans h.2 (ivc_1 e).2⟩
theorem iv_tf {lo hi a b x : Int} (h : Iv a b x) (e : ivc lo a (b + 1) hi = true) : lo ≤ x ∧ x < hi := by
  have := ivc_1 e; obtain ⟨h1, h2⟩ := h; exact ⟨by omega, by omega⟩
theorem iv_lt {lo hi a b x : Int} (h : Iv a b x) (e : ivc (lo + 1) a (b + 1) hi = true) : lo < x ∧ x < hi := by
  have := ivc_1 e; obtain ⟨h1, h2⟩ := h; exact ⟨by omega, by omega⟩
theorem iv_l {lo a b x : Int} (h : Iv a b x) (e : decide (lo < a) = true) : lo < x := Int.lt_of_lt_of_le (of_decide_eq_true e) h.1
theorem iv_u {hi a b x : Int} (h : Iv a b x) (e : decide (b < hi) = true) : x < hi := Int.lt_of_le_of_lt h.2 (of_decide_eq_true e)
theorem iv_ll {lo a b x : Int} (h : Iv a b x) (e : decide (lo ≤ a) = true) : lo ≤ x := Int.le_trans (of_decide_eq_true e) h.1
theorem iv_uu {hi a b x : Int} (h : Iv a b x) (e : decide (b ≤ hi) = true) : x ≤ hi := Int.le_trans h.2 (of_decide_eq_true e)
theorem le_by {a b c n : Nat} (h : a = b) (h2 : b ≤ c) (e : Nat.ble c n = true) : a ≤ n := Nat.le_trans (h ▸ h2) (Nat.le_of_ble_eq_true e)
theorem le_by2 {a b c n : Nat} (h : a ≤ b) (h2 : b ≤ c) (e : Nat.ble c n = true) : a ≤ n := Nat.le_trans (Nat.le_trans h h2) (Nat.le_of_ble_eq_true e)
theorem le_by3 {a b c d n : Nat} (h : a ≤ b) (h1 : b = c) (h2 : c ≤ d) (e : Nat.ble d n = true) : a ≤ n := Nat.le_trans (Nat.le_trans h (h1 ▸ h2)) (Nat.le_of_ble_eq_true e)
theorem four_c {i : Nat} (h : i < 4) : i = 0 ∨ i = 1 ∨ i = 2 ∨ i = 3 := by omega
theorem units_lim {dp un i k : Nat} {gd : Option (List Code)} {cn : Str} {cs : Scope} {L a : Addr} {ccd : Value} {cl : List (Str × Addr)} {outer : List Env} (h : un + k < cLine) (e : Nat.ble (i + 64) k = true) : (ktrTop dp (un + i) gd cn cs L a ccd cl outer).units + 64 < cLine := by
  have := Nat.le_of_ble_eq_true e
  show un + i + 64 < cLine
  omega
theorem wide_l {x : Int} {j k : Nat} (h : x < 2 ^ j) (e : Nat.ble j k = true) : x < 2 ^ k := Int.lt_of_lt_of_le h (two_mono e)

def RetM (h₀ : Heap) (L : Addr) (m : Str → Option Value) (news : List (Addr × Obj)) (g : Heap) (L' : Addr) (Q : Value → Shared → Prop) (v : Value) (s' : Shared) : Prop :=
  ∃ m' own, Fr g L' s'.heap m' ∧ News g L' s'.heap own ∧ (Fr h₀ L s'.heap m → News h₀ L s'.heap (own ++ news) → Q v s')

theorem retM {h₀ : Heap} {L : Addr} {m : Str → Option Value} {news : List (Addr × Obj)} {g : Heap} {L' : Addr} {Q : Value → Shared → Prop} {v : Value} {s' : Shared} {m' : Str → Option Value} {own : List (Addr × Obj)}
    (F : Fr g L' s'.heap m') (N : News g L' s'.heap own) (k : Fr h₀ L s'.heap m → News h₀ L s'.heap (own ++ news) → Q v s') : RetM h₀ L m news g L' Q v s' := ⟨_, _, F, N, k⟩
/-- the state with one token more: one name for it, where the written record has ten nodes -/
abbrev bump (s : Shared) : Shared := { s with toks := s.toks + 1 }
section
variable {prog : Program} {w : World} {M : Model} {A : Around} {E : Value → Shared → Prop} {s : Shared} {h₀ : Heap} {L a : Addr} {m : Str → Option Value} {cn : Str} {cs : Scope} {ccd : Value} {cl : List (Str × Addr)} {news : List (Addr × Obj)} {env : Env}
theorem int_b {i k pos} {Q : Value → Shared → Prop} (h : Q (.int i s.toks) (bump s)) : wpAny M A (eval (.Constant (.int i) k pos) env) Q E s := wpAny_Constant_int h
theorem str_b {x : Str} {k pos} {Q : Value → Shared → Prop} (h : Q (.str x s.toks) (bump s)) : wpAny M A (eval (.Constant (.str x) k pos) env) Q E s := Calls.Constant_str h
theorem add_b {x y : Int} {t u : Tok} {Q : Value → Shared → Prop} (h : Q (.int (x + y) s.toks) (bump s)) : wpAny (model prog w) A (binaryOp .Add (.int x t) (.int y u)) Q E s := add_int h
theorem sub_b {x y : Int} {t u : Tok} {Q : Value → Shared → Prop} (h : Q (.int (x - y) s.toks) (bump s)) : wpAny (model prog w) A (binaryOp .Sub (.int x t) (.int y u)) Q E s := sub_int h
theorem store_b {x : Str} {v : Value} {Q : Unit → Shared → Prop} (F : Fr h₀ L s.heap m) (N : News h₀ L s.heap news)
    (h : ∀ s₁ : Shared, Sm s s₁ → Fr h₀ L s₁.heap (fun y => if y = x then some v else m y) → News h₀ L s₁.heap news → Q () s₁)
    (hk : cs.kind = .function) (hx : (envX cn cs L a ccd cl).kindOf x = some .local) : wpAny M A (storeName (envX cn cs L a ccd cl) x v) Q E s :=
  storeX_L F N (fun _ F' N' => h _ ⟨rfl, rfl⟩ F' N') hk hx
theorem tuple_b {vs : List Value} {Q : Value → Shared → Prop} (F : Fr h₀ L s.heap m) (N : News h₀ L s.heap news)
    (h : ∀ D (s₁ : Shared), Sm s s₁ → Fr h₀ L s₁.heap m → News h₀ L s₁.heap ((D, ({ cls := .type "tuple", data := .seq vs.toArray } : Obj)) :: news) → Q (.ref D) s₁) (hz : vs.length ≤ sizeLine) : wpAny M A (newTuple vs) Q E s :=
  kup_newTuple F N (fun D _ F' N' _ => h D _ ⟨rfl, rfl⟩ F' N') hz
theorem list_b {vs : List Value} {Q : Value → Shared → Prop} (F : Fr h₀ L s.heap m) (N : News h₀ L s.heap news)
    (h : ∀ l (s₁ : Shared), Sm s s₁ → Fr h₀ L s₁.heap m → News h₀ L s₁.heap ((l, listOf vs.toArray 0) :: news) → Q (.ref l) s₁) (hz : vs.length ≤ sizeLine) : wpAny M A (newList vs) Q E s :=
  newList_K F N (fun l _ F' N' _ => h l _ ⟨rfl, rfl⟩ F' N') hz
theorem get_b {K : Frag} {x C : Addr} {ox : Obj} {es : List DictEntry} {n : Nat} {name : Str} {v : Value} {expr : Bool} {attr : Option Value} {Q : Value → Shared → Prop} (F : Fr h₀ L s.heap m) (X₀ : K.In h₀) (I : InstAt s.heap x ox C (some (dictOf es n))) (hg : plainGet K C name = true) (hh : hasDictIn K C = true)
    (ha : findIn K (.ref C) name = some attr) (hn : noGet K attr = true) (hl : getL name es = some (some v)) (hv : handedIn v = true) (h : Q v (bump s)) : wpAny (model prog w) A (getAttr (.ref x) name expr) Q E s :=
  get_own F X₀ I hg hh ha hn hl hv h
theorem set_b {K : Frag} {x dx C : Addr} {ox : Obj} {es es' : List DictEntry} {n n' : Nat} {name : Str} {v : Value} {news' : List (Addr × Obj)} {Q : Unit → Shared → Prop} (F : Fr h₀ L s.heap m) (X₀ : K.In h₀) (N : News h₀ L s.heap news) (I : InstAt s.heap x ox C (some (dictOf es n))) (hd : ox.dict = some dx)
    (hs : findIn K (.ref C) "__setattr__" = some (some (.builtin "object.__setattr__"))) (hp : plainOver K C = true) (ht : takerIn K C name = some none) (hh : hasDictIn K C = true) (hl : (getL name es).isSome = true)
    (e : (putL name (PyData.keyHash w.params name) (.str name (s.toks + 1)) v es, putN name es n) = (es', n')) (U : Upd dx (dictOf es n) (dictOf es' n') news news') (hz : es'.length ≤ 1000)
    (h : ∀ s₁ : Shared, Sm s s₁ → Fr h₀ L s₁.heap m → News h₀ L s₁.heap news' → Q () s₁) : wpAny (model prog w) A (setAttr (.ref x) name v) Q E s :=
  set_dict F X₀ N I hd hs hp ht hh hl e U hz fun _ F' N' => h _ ⟨rfl, rfl⟩ F' N'
end

theorem news_join {h₀ g h hs : Heap} {L L' : Addr} {m' : Str → Option Value} {mu own news : List (Addr × Obj)}
    (N : News h₀ L hs (mu ++ news)) (hdis : ∀ p ∈ news, p.1 ∉ mu.map (·.1)) (G : GSub hs g (mu.map (·.1)))
    (F' : Fr g L' h m') (kN : News h₀ L h own) : News h₀ L h (own ++ news) := by
  intro p hp
  rcases List.mem_append.mp hp with hp | hp
  · exact kN p hp
  · have := N p (List.mem_append_right _ hp)
    exact ⟨F'.keep _ _ (G _ _ this.1 (hdis p hp)), this.2⟩

section
variable {prog : Program} {w : World} {K : Frag} {p : Program} {loose : List Str} {mean : ExcName → Option Value} {mg mb : Str → Option Value}
  {dp un : Nat} {gd : Option (List Code)} {cn : Str} {cs : Scope} {a : Addr} {ccd : Value} {cl : List (Str × Addr)} {outer : List Env} {A₀ : Around} {base h₀ : Heap} {L : Addr}
  {m : Str → Option Value} {mu news : List (Addr × Obj)} {s : Shared} {Q E : Value → Shared → Prop}
  {name qual : Str} {params : Arguments} {body : List Stmt} {scope : Scope} {dV kV doc pm cdv ct oc : Value} {an od : Option Addr} {osl : Array (Option Value)} {f : Addr} {vs : List Value} {binds : List (Str × Value)}

theorem enterM (B : Below A₀ base outer h₀) (F : Fr h₀ L s.heap m) (X : K.In h₀) (N : News h₀ L s.heap (mu ++ news)) (hdis : ∀ p ∈ news, p.1 ∉ mu.map (·.1)) (T : Top p loose mean mg mb h₀)
    (hk : cs.kind = .function) (ho : K.lookup f = some ⟨oc, od, .func (fnOf name qual params body scope dV kV doc pm an cdv ct), osl⟩) (hcd : codeIn K cdv qual = true) (hroom : dp < recursionLimit)
    (hbind : BindsTo s (fnOf name qual params body scope dV kV doc pm an cdv ct) ⟨vs, []⟩ binds) (hloc : ∀ y ∈ binds, scope.names.lookup y.1 = some .local)
    (hco : scope.isCoroutine = false) (hgen : scope.isGenerator = false) (hks : scope.kind = .function) (hcell : ∀ x ∈ scope.names, x.2 ≠ .cell)
    (h : ∀ g L' s₁, Sm s s₁ → GSub s.heap g (mu.map (·.1)) → Fr g L' s₁.heap (fun y => binds.reverse.lookup y) → News g L' s₁.heap mu →
      Below (ktrTop dp un gd cn cs L a ccd cl outer) base (envX cn cs L a ccd cl :: outer) g → K.In g → Top p loose mean mg mb g →
      let gA : Around := ktrTop (dp + 1) (un + 3) gd qual scope L' f cdv [] (envX cn cs L a ccd cl :: outer); let gE : Env := envOf qual scope L' f cdv; wpAny (model prog w) gA (execs body gE)
        (fun fl s' => RetM h₀ L m news g L' Q (match fl with | .ret v => v | _ => .none) s') (fun _ _ => False) s₁) :
    wpAny (model prog w) (ktrTop dp un gd cn cs L a ccd cl outer) (call (.ref f) vs) Q E s := by
  refine wpAny_call ?_
  refine code_defG B F X (fun q hq => N q (List.mem_append_left _ hq)) T rfl rfl hk ho hcd hroom hbind hloc ?_ hco hgen hks hcell
  intro g L' h₁ FG F' N' B' X' T' G
  refine wpAny_mono (h g L' _ ⟨rfl, rfl⟩ G F' N' B' X' T') (fun fl s' hr => ?_) (fun _ _ e => e.elim)
  obtain ⟨m', own, F2, N2, k⟩ := hr
  exact ⟨L', m', own, F2, N2, fun kF kN => k kF (news_join N hdis G F2 kN)⟩

end


section
variable {prog : Program} {w : World} {K : Frag} {p : Program} {loose : List Str} {mean : ExcName → Option Value} {mg mb : Str → Option Value}
  {dp un : Nat} {gd : Option (List Code)} {cn : Str} {cs : Scope} {a : Addr} {ccd : Value} {cl : List (Str × Addr)} {outer : List Env} {A₀ : Around} {base h₀ : Heap} {L : Addr}
  {m : Str → Option Value} {news : List (Addr × Obj)} {s : Shared} {Q E : Value → Shared → Prop}
  {name qual : Str} {params : Arguments} {body : List Stmt} {scope : Scope} {dV kV doc pm cdv ct oc : Value} {an od : Option Addr} {osl : Array (Option Value)} {f C : Addr} {vs : List Value} {binds : Addr → List (Str × Value)}

theorem under_make (C : Addr) (vs : List Value) : (ktrTop dp un gd cn cs L a ccd cl outer).under (.builtin "type.__call__" ⟨.ref C :: vs, []⟩) = ktrTop (dp + 1) (un + 1) gd cn cs L a ccd cl outer := by
  have h1 : (Code.builtin "type.__call__" ⟨.ref C :: vs, []⟩).weight = 1 := rfl
  have h2 : (Code.builtin "type.__call__" ⟨.ref C :: vs, []⟩).envs = [] := rfl
  have h3 : (Code.builtin "type.__call__" ⟨.ref C :: vs, []⟩).guards = [] := rfl
  have h4 : (Code.builtin "type.__call__" ⟨.ref C :: vs, []⟩).cUnits = 1 := rfl
  unfold Around.under
  rw [h1, h2, h3, h4]
  simp [pushEnvs, pushGuards]

/-- a class called whose __init__ is a def: entered with the new object and its empty dict alone in the ledger -/
theorem makeM (B : Below A₀ base outer h₀) (F : Fr h₀ L s.heap m) (X : K.In h₀) (N : News h₀ L s.heap news) (T : Top p loose mean mg mb h₀)
    (hk : cs.kind = .function) (hm : makesIn K C = true) (hi : findIn K (.ref C) "__init__" = some (some (.ref f))) (hf : isFn K (.ref f) = true)
    (ho : K.lookup f = some ⟨oc, od, .func (fnOf name qual params body scope dV kV doc pm an cdv ct), osl⟩) (hcd : codeIn K cdv qual = true) (hroom : dp + 1 < recursionLimit)
    (hbind : ∀ x (s' : Shared), K.In s'.heap → BindsTo s' (fnOf name qual params body scope dV kV doc pm an cdv ct) ⟨.ref x :: vs, []⟩ (binds x)) (hloc : ∀ x, ∀ y ∈ binds x, scope.names.lookup y.1 = some .local)
    (hco : scope.isCoroutine = false) (hgen : scope.isGenerator = false) (hks : scope.kind = .function) (hcell : ∀ x ∈ scope.names, x.2 ≠ .cell)
    (h : ∀ g L' s₁ x dx, Sm s s₁ → dx < x → (∀ b o, s.heap.get? b = some o → g.get? b = some o) → Fr g L' s₁.heap (fun y => (binds x).reverse.lookup y) → News g L' s₁.heap [(x, instObj C dx), (dx, dictOf [] 0)] →
      Below (ktrTop (dp + 1) (un + 1) gd cn cs L a ccd cl outer) base (envX cn cs L a ccd cl :: outer) g → K.In g → Top p loose mean mg mb g →
      let gA : Around := ktrTop (dp + 2) (un + 4) gd qual scope L' f cdv [] (envX cn cs L a ccd cl :: outer); let gE : Env := envOf qual scope L' f cdv; wpAny (model prog w) gA (execs body gE)
        (fun fl s' => RetM h₀ L m news g L' (fun v s' => v = .none ∧ Q (.ref x) s') (match fl with | .ret v => v | _ => .none) s') (fun _ _ => False) s₁) :
    wpAny (model prog w) (ktrTop dp un gd cn cs L a ccd cl outer) (call (.ref C) vs) Q E s := by
  obtain ⟨hh, gs, dr, tk₀, os⟩ := s
  have X' : K.In hh := X.keeps F.keep
  refine wpAny_call (make_core (makes_of X' hm) (looks_findIn X' hi) (fun self => bind_fn X' self (beq_iff_eq.mp hf)) (.inl rfl) ?_)
  have F1 : Fr h₀ L ((hh.push emptyDict).push (instObj C hh.objs.size)) m := (F.push _).push _
  have N1 : News h₀ L ((hh.push emptyDict).push (instObj C hh.objs.size)) ((hh.objs.size + 1, instObj C hh.objs.size) :: (hh.objs.size, emptyDict) :: news) := by
    have := (N.push F emptyDict).push (F.push _) (instObj C hh.objs.size)
    rwa [Heap.size_push] at this
  have hs1 : ∀ b o, hh.get? b = some o → ((hh.push emptyDict).push (instObj C hh.objs.size)).get? b = some o := fun b o e => Heap.get?_push_of_some _ (Heap.get?_push_of_some _ e)
  rw [under_make]
  refine code_defG (A₀ := A₀) (s := ⟨(hh.push emptyDict).push (instObj C hh.objs.size), gs, dr, tk₀, os⟩) (news := [(hh.objs.size + 1, instObj C hh.objs.size), (hh.objs.size, dictOf [] 0)]) B F1 X (fun q hq => N1 q ?_) T rfl rfl hk ho hcd hroom (hbind _ _ (X.keeps F1.keep)) (hloc _) ?_ hco hgen hks hcell
  · rcases List.mem_cons.mp hq with rfl | hq
    · exact .head _
    · exact .tail _ (by rw [List.mem_singleton.mp hq]; exact .head _)
  intro g L' h₁ FG F' N' B' X'' T' G
  have G0 : ∀ b o, hh.get? b = some o → g.get? b = some o := fun b o e => by
    refine G b o (hs1 b o e) fun hm => ?_
    have h3 : b < hh.objs.size := Heap.lt_size e
    rcases List.mem_cons.mp hm with h4 | h4
    · rw [show b = hh.objs.size + 1 from h4] at h3
      exact Nat.lt_irrefl _ (Nat.lt_of_le_of_lt (Nat.le_succ hh.objs.size) h3)
    · rw [show b = hh.objs.size from List.mem_singleton.mp h4] at h3
      exact Nat.lt_irrefl _ h3
  refine wpAny_mono (h g L' _ (hh.objs.size + 1) hh.objs.size ⟨rfl, rfl⟩ (Nat.lt_succ_self _) G0 F' N' B' X'' T') (fun fl s' hr => ?_) (fun _ _ e => e.elim)
  obtain ⟨m', own, F2, N2, k⟩ := hr
  refine ⟨L', m', own, F2, N2, fun kF kN => ?_⟩
  have N3 : News h₀ L s'.heap (own ++ news) := fun q hq => by
    rcases List.mem_append.mp hq with hq | hq
    · exact kN q hq
    · exact ⟨F2.keep _ _ (G0 _ _ (N q hq).1), (N q hq).2⟩
  obtain ⟨k1, k2⟩ := k kF N3
  exact ⟨k1, k2⟩
end


section
variable {prog : Program} {w : World} {K : Frag} {p : Program} {loose : List Str} {mean : ExcName → Option Value} {mg mb : Str → Option Value}
  {dp un : Nat} {gd : Option (List Code)} {cn : Str} {cs : Scope} {a : Addr} {ccd : Value} {cl : List (Str × Addr)} {outer : List Env} {A₀ : Around} {base h₀ : Heap} {L : Addr}
  {m : Str → Option Value} {mu news : List (Addr × Obj)} {s : Shared} {Q E : Value → Shared → Prop}
  {name qual : Str} {params : Arguments} {body : List Stmt} {scope : Scope} {dV kV doc pm cdv ct oc : Value} {an od : Option Addr} {osl : Array (Option Value)} {f : Addr} {vs : List Value} {binds : List (Str × Value)}

/-- a def that has cells, entered -/
theorem enterC (B : Below A₀ base outer h₀) (F : Fr h₀ L s.heap m) (X : K.In h₀) (N : News h₀ L s.heap (mu ++ news)) (hdis : ∀ p ∈ news, p.1 ∉ mu.map (·.1)) (T : Top p loose mean mg mb h₀)
    (hk : cs.kind = .function) (ho : K.lookup f = some ⟨oc, od, .func (fnOf name qual params body scope dV kV doc pm an cdv ct), osl⟩) (hcd : codeIn K cdv qual = true) (hroom : dp < recursionLimit)
    (hbind : BindsTo s (fnOf name qual params body scope dV kV doc pm an cdv ct) ⟨vs, []⟩ binds) (hkd : (binds.all fun y => scope.names.lookup y.1 == some .local || scope.names.lookup y.1 == some .cell) = true)
    (hnd : ((cellsFrom 0 scope.names []).map (·.1)).Nodup) (hco : scope.isCoroutine = false) (hgen : scope.isGenerator = false) (hks : scope.kind = .function)
    (h : ∀ g L' s₁ cells, Sm s s₁ → GSub s.heap g (mu.map (·.1)) → Fr g L' s₁.heap (bindL (envOfC qual scope L' f cdv).kindOf binds fun _ => none) → News g L' s₁.heap (cells ++ mu) →
      CellsAre (bindC (envOfC qual scope L' f cdv).kindOf binds fun _ => none) (cellsFrom (L' + 1) scope.names []) cells → (∀ p ∈ mu, p.1 < L') →
      Below (ktrTop dp un gd cn cs L a ccd cl outer) base (envX cn cs L a ccd cl :: outer) g → K.In g → Top p loose mean mg mb g →
      let gA : Around := ktrTop (dp + 1) (un + 3) gd qual scope L' f cdv (cellsFrom (L' + 1) scope.names []) (envX cn cs L a ccd cl :: outer); wpAny (model prog w) gA (execs body (envOfC qual scope L' f cdv))
        (fun fl s' => RetM h₀ L m news g L' Q (match fl with | .ret v => v | _ => .none) s') (fun _ _ => False) s₁) :
    wpAny (model prog w) (ktrTop dp un gd cn cs L a ccd cl outer) (call (.ref f) vs) Q E s := by
  refine wpAny_call ?_
  have N0 : News h₀ L s.heap mu := fun q hq => N q (List.mem_append_left _ hq)
  have X₀ := X
  obtain ⟨FG, BG, st, lv⟩ := groundX (R := fun r s' => match r with | .ok (.ret v) => Q v s' | .ok _ => False | .error e => E e s') (A := ktrTop dp un gd cn cs L a ccd cl outer) (env := envX cn cs L a ccd cl) B F N0 rfl rfl hk
  refine codeAny_call_function hroom ((X₀.keeps F.keep) _ _ ho) rfl hco hgen rfl (codeRec_of (X₀.keeps F.keep) hcd) (hbind _ _ _ _ ?_)
  refine wpAny_newFunctionEnv_cells hks (kindsX hkd _) fun env' he s' x => ?_
  subst he
  refine ⟨(T.nolimit.keeps F.keep).keeps x.toInCall.keep, codeAny_func ?_⟩
  obtain ⟨h₁, tk, rfl, _⟩ := x.done
  have hk₁ := x.toInCall.keep
  obtain ⟨cells, NC, Y⟩ := Cl.news (h₀ := s.heap) (Nat.le_refl _) fun n c hm => ⟨x.cell n c (lookup_of_mem_nodup (cellsFrom_names scope.names 0 (s.heap.objs.size + 1) [] [] rfl ▸ hnd) hm), x.above n c hm⟩
  refine wpAny_mono (h _ s.heap.objs.size _ cells ⟨rfl, rfl⟩ (fun b o e n => hideAll_get _ e n) ⟨x.toInCall.ns, fun b o e => hk₁ b o (of_hideAll _ e), Nat.le_of_eq (hideAll_size _ _)⟩ (fun p hp => ?_) Y (fun p hp => Heap.lt_size (N0 p hp).1) BG (X₀.keeps st) (T.keeps st)) (fun fl s' hl => ?_) fun _ _ y => y.elim
  · rcases List.mem_append.mp hp with hp | hp
    · refine ⟨(NC p hp).1, (NC p hp).2.1, ?_⟩
      cases q : (hideAll s.heap (mu.map (·.1))).get? p.1 with
      | none => rfl
      | some o => have := of_hideAll _ q; rw [(NC p hp).2.2] at this; cases this
    · exact ⟨hk₁ _ _ (N0 p hp).1, Nat.ne_of_lt (Heap.lt_size (N0 p hp).1), hideAll_none _ (List.mem_map_of_mem hp)⟩
  · obtain ⟨m', own, F2, N2, k⟩ := hl
    exact lv _ _ ⟨_, m', own, F2, N2, fun kF kN => k kF (news_join N hdis (fun b o e n => hideAll_get _ e n) F2 kN)⟩
end

theorem fillNow : (fun (_ : OpenLaw) (_ : Params → Frag) => True) PySem.Challenge.rw_nu0030_01 hd.heap_39 := by
  k_fill
  trivial

section
variable {M : Model} {A : Around} {E : Value → Shared → Prop} {s : Shared} {K : Frag} {h₀ : Heap} {L a : Addr} {m mg mb : Str → Option Value} {cn : Str} {cs : Scope} {ccd : Value} {cl : List (Str × Addr)} {p : Program} {loose : List Str} {mean : ExcName → Option Value}
  {x : Str} {pos pos' : Pos} {f : Value} {Q : Value → Shared → Prop} {e1 e2 e3 : PySem.Expr} {env : Env}
/-- a call of a global name with one written argument, in one step -/
theorem call_g1 (hn : ∀ Q' : Value → Shared → Prop, Q' f s → wpAny M A (eval (.Name x pos) env) Q' E s) (X : K.In h₀) (hkp : keepIn K f = true)
    (he : starEach [e1] env = [(false, eval e1 env)])
    (h : wpAny M A (eval e1 env) (fun v s₁ => K.In s₁.heap ∧ wpAny M A (call f [v]) Q E s₁) E s) :
    wpAny M A (eval (.Call (.Name x pos) [e1] [] pos') env) Q E s := by
  refine Call_ (hn _ ?_) rfl
  refine callWith_K X hkp ?_ he rfl
  refine args_cons (wpAny_mono h (fun v s₁ hv => ?_) (fun _ _ z => z)) he
  exact args_nil hv
theorem call_g2 (hn : ∀ Q' : Value → Shared → Prop, Q' f s → wpAny M A (eval (.Name x pos) env) Q' E s) (X : K.In h₀) (hkp : keepIn K f = true)
    (he : starEach [e1, e2] env = [(false, eval e1 env), (false, eval e2 env)])
    (he2 : starEach [e2] env = [(false, eval e2 env)])
    (h : wpAny M A (eval e1 env) (fun v s₁ => wpAny M A (eval e2 env) (fun v2 s₂ => K.In s₂.heap ∧ wpAny M A (call f [v, v2]) Q E s₂) E s₁) E s) :
    wpAny M A (eval (.Call (.Name x pos) [e1, e2] [] pos') env) Q E s := by
  refine Call_ (hn _ ?_) rfl
  refine callWith_K X hkp ?_ (by rw [he, he2]) (by rw [he2]; rfl)
  refine args_cons (wpAny_mono h (fun v s₁ hv => ?_) (fun _ _ z => z)) (by rw [he, he2])
  refine args_cons (wpAny_mono hv (fun v s₁ hv => ?_) (fun _ _ z => z)) he2
  exact args_nil hv
theorem call_g3 (hn : ∀ Q' : Value → Shared → Prop, Q' f s → wpAny M A (eval (.Name x pos) env) Q' E s) (X : K.In h₀) (hkp : keepIn K f = true)
    (he : starEach [e1, e2, e3] env = [(false, eval e1 env), (false, eval e2 env), (false, eval e3 env)])
    (he2 : starEach [e2, e3] env = [(false, eval e2 env), (false, eval e3 env)])
    (he3 : starEach [e3] env = [(false, eval e3 env)])
    (h : wpAny M A (eval e1 env) (fun v s₁ => wpAny M A (eval e2 env) (fun v2 s₂ => wpAny M A (eval e3 env) (fun v3 s₃ => K.In s₃.heap ∧ wpAny M A (call f [v, v2, v3]) Q E s₃) E s₂) E s₁) E s) :
    wpAny M A (eval (.Call (.Name x pos) [e1, e2, e3] [] pos') env) Q E s := by
  refine Call_ (hn _ ?_) rfl
  refine callWith_K X hkp ?_ (by rw [he, he2]) (by rw [he2]; rfl)
  refine args_cons (wpAny_mono h (fun v s₁ hv => ?_) (fun _ _ z => z)) (by rw [he, he2])
  refine args_cons (wpAny_mono hv (fun v s₁ hv => ?_) (fun _ _ z => z)) (by rw [he2, he3])
  refine args_cons (wpAny_mono hv (fun v s₁ hv => ?_) (fun _ _ z => z)) he3
  exact args_nil hv
end
end
end Mine

namespace Mine
section
theorem fillNow_my : (fun (_ : OpenLaw) (_ : Params → Frag) => True) PySem.Challenge.rw_nu0030_01 hd.heap_39 := by
  k_fill
  trivial
theorem rl_Misc_0 : True := by
  k_with_none
  k_with "om" => (first | with_reducible assumption | exact lim_i (by with_reducible assumption) (by rfl) | exact lim_n (by with_reducible assumption) | exact lim_2 (by with_reducible assumption) (by rfl) | exact lim_0 (by with_reducible assumption) (by rfl) | (with_reducible decide) | exact wide (by with_reducible assumption) (by rfl) | exact wide_p (by with_reducible assumption) (by rfl) | exact wide_p (And.intro (by with_reducible assumption) (by with_reducible assumption)) (by rfl) | (refine And.intro ?_ ?_ <;> with_reducible assumption) | ((with_reducible show (_ : Int) < _ ∧ (_ : Int) < _); first | exact iv_lt (by k_extra "iv") (by decide +kernel)) | ((with_reducible show (_ : Int) ≤ _ ∧ (_ : Int) ≤ _); first | exact iv_tt (by k_extra "iv") (by decide +kernel)) | ((with_reducible show (_ : Int) ≤ _ ∧ (_ : Int) < _); first | exact iv_tf (by k_extra "iv") (by decide +kernel)) | ((with_reducible show (_ : Int) < _); first | exact iv_l (by k_extra "iv") (by decide +kernel) | exact iv_u (by k_extra "iv") (by decide +kernel)) | ((with_reducible show (_ : Int) ≤ _); first | exact iv_ll (by k_extra "iv") (by decide +kernel) | exact iv_uu (by k_extra "iv") (by decide +kernel)) | omega)
  k_with "iv" => (first | (with_reducible exact iv_le (by with_reducible assumption)) | (with_reducible exact iv_ff (by with_reducible assumption)) | (with_reducible exact iv_lf (by with_reducible assumption)) | (with_reducible exact iv_le2 (by with_reducible assumption) (by with_reducible assumption)) | ((with_reducible show Iv _ _ (_ + _)); exact iv_add (by k_extra "iv") (by k_extra "iv")) | ((with_reducible show Iv _ _ (_ - _)); exact iv_sub (by k_extra "iv") (by k_extra "iv")) | ((with_reducible show Iv _ _ (-_)); exact iv_neg (by k_extra "iv")) | ((with_reducible show Iv _ _ (_ * _)); first | exact iv_cm (by k_extra "iv") (by decide +kernel) | exact iv_mc (by k_extra "iv") (by decide +kernel)) | (with_reducible exact iv_lit))
  k_with "sm" => (repeat (first | exact Sm.refl _ | assumption | refine Sm.trans ?_ (by assumption)))
  trivial
section
variable {prog : Program} {w : World} {A : Around} {E : Value → Shared → Prop} {s : Shared} {Q : Value → Shared → Prop}
theorem tup_reads {h : Heap} {a : Addr} {vs : List Value} {ns : List Int} (i : IsTup h a vs.toArray) (hi : IntsAre vs ns) : Reads h (.ref a) (.tuple (ns.map PyData.int)) [] := by
  obtain ⟨o, ho, hc, n, hd⟩ := i
  refine reads_tuple_at ho hc hd ?_
  have : vs.toArray.toList = vs := by simp
  rw [this]
  clear hd this
  induction hi with
  | nil => exact ReadsAll.nil
  | cons n t _ ih => exact ReadsAll.cons (as := []) (Reads.int _ _) ih
theorem tup_shaped (ns : List Int) : SeqAt.shaped (.tuple (ns.map PyData.int)) = true := by
  simp [SeqAt.shaped, PyData.canLay0, PyData.depth, ke_canLayAll0, ke_depthAll]
theorem tup_eqv (ns ms : List Int) : PyData.eqv (.tuple (ns.map PyData.int)) (.tuple (ms.map PyData.int)) = decide (ns = ms) := by
  simp only [PyData.eqv]; exact ked_eqvAll ns ms
theorem ne_tup {a b : Addr} {xs ys : List Value} {ns ms : List Int} (ha : IsTup s.heap a xs.toArray) (hb : IsTup s.heap b ys.toArray) (hi : IntsAre xs ns) (hj : IntsAre ys ms) (hu : A.units + 64 < cLine) (h : Q (.bool (!decide (ns = ms))) s) :
    wpAny (model prog w) A (compareOp .NotEq (.ref a) (.ref b)) Q E s :=
  ne_dataH (tup_reads ha hi) (tup_reads hb hj) (tup_shaped _) (tup_shaped _) hu (by rw [tup_eqv]; exact h)
theorem eq_tup {a b : Addr} {xs ys : List Value} {ns ms : List Int} (ha : IsTup s.heap a xs.toArray) (hb : IsTup s.heap b ys.toArray) (hi : IntsAre xs ns) (hj : IntsAre ys ms) (hu : A.units + 64 < cLine) (h : Q (.bool (decide (ns = ms))) s) :
    wpAny (model prog w) A (compareOp .Eq (.ref a) (.ref b)) Q E s :=
  eq_dataH (tup_reads ha hi) (tup_reads hb hj) (tup_shaped _) (tup_shaped _) hu (by rw [tup_eqv]; exact h)
theorem eq_nil {l b : Addr} {vs : List Value} (hl : s.heap.IsList l vs.toArray) (hb : s.heap.IsList b #[]) (hu : A.units + 64 < cLine) (h : Q (.bool vs.isEmpty) s) :
    wpAny (model prog w) A (compareOp .Eq (.ref l) (.ref b)) Q E s := by
  cases vs with
  | nil => exact SeqAt.eq_listAt (e := fun _ => true) hl hb rfl (by k_extra "om") (fun j h1 h2 => absurd h1 (by simp)) (by simpa using h)
  | cons v r => exact SeqAt.eq_list_lengthsAt hl hb (by simp) (by k_extra "om") h
theorem item_list {value slice : Expr} {l : Addr} {vs : List Value} {k : Int} {u : Tok} {x : Value} (hl : s.heap.IsList l vs.toArray) (h0 : 0 ≤ k) (h1 : k < 2 ^ 63) (hx : vs[k.toNat]? = some x) (h : Q x s)
    (hs : subscripted slice false (.ref l) (.int k u) = operate [.ref l, .int k u] (getItem (.ref l) (.int k u)) := by with_unfolding_all rfl) :
    wpAny (model prog w) A (subscriptTail value slice (.ref l) (.int k u)) Q E s :=
  tail_any hl.typeIs slot_list_getitem.lookup (wpAny_getItem_list hl h0 h1 (by simpa using hx) h) hs
theorem len_vs {l : Addr} {vs : List Value} (hl : s.heap.IsList l vs.toArray) (hf : vs.length < 2 ^ 62) (h : Q (.int (vs.length : Int) (s.toks + 1)) { s with toks := s.toks + 1 + 1 }) : wpAny (model prog w) A (call (.builtin "len") [.ref l]) Q E s :=
  PyProof.Rows.len_list hl (by simp; omega) (by simpa using h)
theorem item_last {value slice : Expr} {l : Addr} {vs : List Value} {u : Tok} {x : Value} (hl : s.heap.IsList l vs.toArray) (hx : vs.getLast? = some x) (h : Q x s)
    (hs : subscripted slice false (.ref l) (.int (-1) u) = operate [.ref l, .int (-1) u] (getItem (.ref l) (.int (-1) u)) := by with_unfolding_all rfl) :
    wpAny (model prog w) A (subscriptTail value slice (.ref l) (.int (-1) u)) Q E s := by
  have hne : vs ≠ [] := by rintro rfl; simp at hx
  have hlen : 0 < vs.length := List.length_pos_iff.mpr hne
  refine tail_any hl.typeIs slot_list_getitem.lookup (wpAny_getItem_list_neg hl (by k_extra "om") (by simp; omega) (by k_extra "om") ?_ h) hs
  rw [List.getLast?_eq_getElem?] at hx
  have : (-1 + ((vs.toArray.size : Nat) : Int)).toNat = vs.length - 1 := by simp; omega
  rw [this]; simpa using hx
end
theorem snoc_ints {f : Nat → Int} {ys : List Value} {i : Nat} {z : Int} {tt : Tok} (hlen : ys.length = i) (hys : ∀ j, j < i → ∃ t, ys[j]? = some (.int (f j) t)) (hz : z = f i) : ∀ j, j < i + 1 → ∃ t, (ys ++ [Value.int z tt])[j]? = some (.int (f j) t) := by
  intro j hj
  by_cases h : j < i
  · obtain ⟨t', e⟩ := hys j h
    exact ⟨t', by rw [List.getElem?_append_left (by k_extra "om")]; exact e⟩
  · have : j = i := by k_extra "om"
    subst this
    exact ⟨tt, by rw [List.getElem?_append_right (by k_extra "om")]; simp [hlen, hz]⟩
theorem four_list {α : Type} {ys : List α} (h : ys.length = 4) : ∃ a b c d, ys = [a, b, c, d] := by
  match ys, h with
  | [a, b, c, d], _ => exact ⟨a, b, c, d, rfl⟩
theorem three_list {α : Type} {ys : List α} (h : ys.length = 3) : ∃ a b c, ys = [a, b, c] := by
  match ys, h with
  | [a, b, c], _ => exact ⟨a, b, c, rfl⟩
end
end Mine

namespace Mine
section
/-- a fraction in lowest terms -/
def fr1 (A B : Int) : Int := A / (Int.gcd A B)
def fr2 (A B : Int) : Int := B / (Int.gcd A B)

theorem gcd_step (u v : Int) : Int.gcd v (u % v) = Int.gcd u v := by
  apply Nat.dvd_antisymm
  · have h1 := Int.gcd_dvd_left v (u % v)
    have h2 := Int.gcd_dvd_right v (u % v)
    refine Int.dvd_gcd ?_ h1
    have h3 := Int.dvd_add h2 (Int.dvd_trans h1 (Int.dvd_mul_right v (u / v)))
    rwa [Int.emod_add_mul_ediv] at h3
  · have h1 := Int.gcd_dvd_left u v
    have h2 := Int.gcd_dvd_right u v
    refine Int.dvd_gcd h2 ?_
    rw [Int.emod_def]
    exact Int.dvd_sub h1 (Int.dvd_trans h2 (Int.dvd_mul_right _ _))

theorem gpos {A B : Int} (hB : 0 < B) : (0 : Int) < (Int.gcd A B : Int) := by
  have := Int.gcd_pos_of_ne_zero_right A (b := B) (by k_extra "om")
  omega
theorem fr1_mul (A B : Int) : fr1 A B * (Int.gcd A B) = A := Int.ediv_mul_cancel (Int.gcd_dvd_left A B)
theorem fr2_mul (A B : Int) : fr2 A B * (Int.gcd A B) = B := Int.ediv_mul_cancel (Int.gcd_dvd_right A B)
theorem fr2_pos {A B : Int} (hB : 0 < B) : 0 < fr2 A B := by
  have h := fr2_mul A B
  have hg := gpos (A := A) hB
  have : 0 < fr2 A B * (Int.gcd A B) := by k_extra "om"
  exact Int.pos_of_mul_pos_left this hg
theorem fr_cross (A B : Int) (hB : 0 < B) : fr1 A B * B = A * fr2 A B := by
  have h1 := fr1_mul A B
  have h2 := fr2_mul A B
  generalize fr1 A B = x at *
  generalize fr2 A B = y at *
  have hg := gpos (A := A) hB
  generalize (Int.gcd A B : Int) = g at *
  subst h1; subst h2
  grind
theorem fr_eq {A B C D : Int} (hB : 0 < B) (hD : 0 < D) (h : A * D = C * B) : fr1 A B = fr1 C D ∧ fr2 A B = fr2 C D := by
  have e1 : Int.gcd (D * A) (D * B) = D.natAbs * Int.gcd A B := Int.gcd_mul_left _ _ _
  have e2 : Int.gcd (B * C) (B * D) = B.natAbs * Int.gcd C D := Int.gcd_mul_left _ _ _
  have e3 : D * A = B * C := by grind
  have e4 : D * B = B * D := by grind
  rw [e3, e4, e2] at e1
  have e5 : B * (Int.gcd C D : Int) = D * (Int.gcd A B : Int) := by
    have : ((B.natAbs * Int.gcd C D : Nat) : Int) = ((D.natAbs * Int.gcd A B : Nat) : Int) := by rw [e1]
    rw [Int.natCast_mul, Int.natCast_mul, Int.natAbs_of_nonneg (by k_extra "om"), Int.natAbs_of_nonneg (by k_extra "om")] at this
    exact this
  unfold fr1 fr2
  have k1 : A / (Int.gcd A B : Int) = (D * A) / (D * (Int.gcd A B : Int)) := (Int.mul_ediv_mul_of_pos _ _ hD).symm
  have k2 : C / (Int.gcd C D : Int) = (B * C) / (B * (Int.gcd C D : Int)) := (Int.mul_ediv_mul_of_pos _ _ hB).symm
  have k3 : B / (Int.gcd A B : Int) = (D * B) / (D * (Int.gcd A B : Int)) := (Int.mul_ediv_mul_of_pos _ _ hD).symm
  have k4 : D / (Int.gcd C D : Int) = (B * D) / (B * (Int.gcd C D : Int)) := (Int.mul_ediv_mul_of_pos _ _ hB).symm
  rw [k1, k2, k3, k4, e3, e4, e5]
  exact ⟨rfl, rfl⟩
theorem fr2_le {A B : Int} (hB : 0 < B) : fr2 A B ≤ B := by
  unfold fr2
  exact Int.ediv_le_self _ (by k_extra "om")
theorem fr1_abs (A B : Int) : (fr1 A B).natAbs ≤ A.natAbs := by
  unfold fr1
  exact Int.natAbs_ediv_le_natAbs _ _
theorem fr1_bd {A B M : Int} (h : -M ≤ A ∧ A ≤ M) : -M ≤ fr1 A B ∧ fr1 A B ≤ M := by
  have := fr1_abs A B
  omega
theorem gcd_fr {A B : Int} (hB : 0 < B) : Int.gcd (fr1 A B) (fr2 A B) = 1 :=
  Int.gcd_ediv_gcd_ediv_gcd (by have := gpos (A := A) hB; omega)
theorem fr_idem {A B : Int} (hB : 0 < B) : fr1 (fr1 A B) (fr2 A B) = fr1 A B ∧ fr2 (fr1 A B) (fr2 A B) = fr2 A B := by
  refine fr_eq (fr2_pos hB) hB ?_
  exact fr_cross A B hB
theorem fr_one (A : Int) : fr1 A 1 = A ∧ fr2 A 1 = 1 := by
  unfold fr1 fr2; simp
theorem fr_plus {A B C D : Int} (hB : 0 < B) (hD : 0 < D) :
    fr1 (fr1 A B * fr2 C D + fr1 C D * fr2 A B) (fr2 A B * fr2 C D) = fr1 (A * D + C * B) (B * D) ∧ fr2 (fr1 A B * fr2 C D + fr1 C D * fr2 A B) (fr2 A B * fr2 C D) = fr2 (A * D + C * B) (B * D) := by
  refine fr_eq (Int.mul_pos (fr2_pos hB) (fr2_pos hD)) (Int.mul_pos hB hD) ?_
  have h1 := fr_cross A B hB
  have h2 := fr_cross C D hD
  grind
theorem fr_minus {A B C D : Int} (hB : 0 < B) (hD : 0 < D) :
    fr1 (fr1 A B * fr2 C D - fr1 C D * fr2 A B) (fr2 A B * fr2 C D) = fr1 (A * D - C * B) (B * D) ∧ fr2 (fr1 A B * fr2 C D - fr1 C D * fr2 A B) (fr2 A B * fr2 C D) = fr2 (A * D - C * B) (B * D) := by
  refine fr_eq (Int.mul_pos (fr2_pos hB) (fr2_pos hD)) (Int.mul_pos hB hD) ?_
  have h1 := fr_cross A B hB
  have h2 := fr_cross C D hD
  grind
theorem fr_times {A B C D : Int} (hB : 0 < B) (hD : 0 < D) :
    fr1 (fr1 A B * fr1 C D) (fr2 A B * fr2 C D) = fr1 (A * C) (B * D) ∧ fr2 (fr1 A B * fr1 C D) (fr2 A B * fr2 C D) = fr2 (A * C) (B * D) := by
  refine fr_eq (Int.mul_pos (fr2_pos hB) (fr2_pos hD)) (Int.mul_pos hB hD) ?_
  have h1 := fr_cross A B hB
  have h2 := fr_cross C D hD
  grind
theorem fr1_pos {A B : Int} (hA : 0 < A) (hB : 0 < B) : 0 < fr1 A B := by
  have h := fr1_mul A B
  have hg := gpos (A := A) hB
  have : 0 < fr1 A B * (Int.gcd A B) := by k_extra "om"
  exact Int.pos_of_mul_pos_left this hg
theorem fr_div {A B C D : Int} (hB : 0 < B) (hC : 0 < C) (hD : 0 < D) :
    fr1 (fr1 A B * fr2 C D) (fr2 A B * fr1 C D) = fr1 (A * D) (B * C) ∧ fr2 (fr1 A B * fr2 C D) (fr2 A B * fr1 C D) = fr2 (A * D) (B * C) := by
  refine fr_eq (Int.mul_pos (fr2_pos hB) (fr1_pos hC hD)) (Int.mul_pos hB hC) ?_
  have h1 := fr_cross A B hB
  have h2 := fr_cross C D hD
  grind
theorem fr_floor {A B : Int} (hB : 0 < B) : fr1 A B / fr2 A B = A / B := by
  have h1 := fr1_mul A B
  have h2 := fr2_mul A B
  have hg := gpos (A := A) hB
  have k : A / B = (fr1 A B * (Int.gcd A B)) / (fr2 A B * (Int.gcd A B)) := by rw [h1, h2]
  rw [k, Int.mul_comm (fr1 A B), Int.mul_comm (fr2 A B), Int.mul_ediv_mul_of_pos _ _ hg]
theorem fr_round {A B : Int} (hB : 0 < B) : (2 * fr1 A B + fr2 A B) / (2 * fr2 A B) = (2 * A + B) / (2 * B) := by
  have h1 := fr1_mul A B
  have h2 := fr2_mul A B
  have hg := gpos (A := A) hB
  have k : (2 * A + B) / (2 * B) = ((Int.gcd A B) * (2 * fr1 A B + fr2 A B)) / ((Int.gcd A B) * (2 * fr2 A B)) := by
    congr 1 <;> grind
  rw [k, Int.mul_ediv_mul_of_pos _ _ hg]
theorem fr_sign {A B C D : Int} (hB : 0 < B) (hD : 0 < D) : Int.sign (fr1 A B * fr2 C D - fr1 C D * fr2 A B) = Int.sign (A * D - C * B) := by
  have h1 := fr1_mul A B
  have h2 := fr2_mul A B
  have h3 := fr1_mul C D
  have h4 := fr2_mul C D
  have hg := gpos (A := A) hB
  have hk := gpos (A := C) hD
  have e : A * D - C * B = ((Int.gcd A B) * (Int.gcd C D)) * (fr1 A B * fr2 C D - fr1 C D * fr2 A B) := by grind
  have hp : 0 < (Int.gcd A B : Int) * (Int.gcd C D) := Int.mul_pos hg hk
  rw [e, Int.sign_mul, Int.sign_eq_one_of_pos hp, Int.one_mul]
theorem mul_bd {x y a b : Int} (h1 : -a < x ∧ x < a) (h2 : -b < y ∧ y < b) : -(a * b) < x * y ∧ x * y < a * b := by
  have k : x.natAbs * y.natAbs < a.natAbs * b.natAbs := Nat.mul_lt_mul'' (by k_extra "om") (by k_extra "om")
  rw [← Int.natAbs_mul, ← Int.natAbs_mul] at k
  have : 0 ≤ a * b := Int.mul_nonneg (by k_extra "om") (by k_extra "om")
  omega
theorem mul58 {x y : Int} (h1 : -(2 ^ 30) < x ∧ x < 2 ^ 30) (h2 : 0 < y ∧ y < 2 ^ 28) : -(2 ^ 58) < x * y ∧ x * y < 2 ^ 58 := by
  have := mul_bd (x := x) (y := y) (a := 2 ^ 30) (b := 2 ^ 28) h1 ⟨by k_extra "om", h2.2⟩
  omega
theorem mul56 {x y : Int} (h1 : 0 < x ∧ x < 2 ^ 28) (h2 : 0 < y ∧ y < 2 ^ 28) : 0 < x * y ∧ x * y < 2 ^ 56 := by
  have := mul_bd (x := x) (y := y) (a := 2 ^ 28) (b := 2 ^ 28) ⟨by k_extra "om", h1.2⟩ ⟨by k_extra "om", h2.2⟩
  have := Int.mul_pos h1.1 h2.1
  omega
theorem mul60 {x y : Int} (h1 : -(2 ^ 30) < x ∧ x < 2 ^ 30) (h2 : -(2 ^ 30) < y ∧ y < 2 ^ 30) : -(2 ^ 60) < x * y ∧ x * y < 2 ^ 60 := by
  have := mul_bd (x := x) (y := y) (a := 2 ^ 30) (b := 2 ^ 30) h1 h2
  omega
theorem newton_ge {f k : Int} (hf : 0 < f) : k ≤ (f + k * k / f) / 2 := by
  have h1 : (2 * k - f) ≤ k * k / f := by
    rw [Int.le_ediv_iff_mul_le hf]
    have : 0 ≤ (k - f) * (k - f) := by
      rcases Int.le_total 0 (k - f) with h | h
      · exact Int.mul_nonneg h h
      · exact Int.mul_nonneg_of_nonpos_of_nonpos h h
    grind
  omega
theorem newton_lt {f k : Int} (hk : 0 < k) (hf : k < f) : (f + k * k / f) / 2 < f := by
  have h1 : k * k / f < k := by
    rw [Int.ediv_lt_iff_lt_mul (by k_extra "om")]
    exact Int.mul_lt_mul_of_pos_left hf hk
  omega
theorem sq_lt {f k : Int} (hk : 0 ≤ k) (h : ¬ f * f ≤ k * k) (hf : 0 < f) : k < f := by
  rcases Int.lt_or_le k f with h1 | h1
  · exact h1
  · exact absurd (Int.mul_le_mul h1 h1 (by k_extra "om") hk) h
theorem sq_le {f k : Int} (hk : 0 ≤ k) (h : f * f ≤ k * k) : f ≤ k := by
  rcases Int.lt_or_le k f with h1 | h1
  · have := Int.mul_lt_mul' (Int.le_of_lt h1) h1 hk (by k_extra "om")
    omega
  · exact h1
/-- the spreads -/
inductive Kd where
  | pad
  | rep
  | refl
def Kd.str : Kd → Str
  | .pad => Str.ofString "pad"
  | .rep => Str.ofString "repeat"
  | .refl => Str.ofString "reflect"
def spr (k : Kd) (T b : Int) : Int := match k with
  | .pad => max 0 (min T b)
  | .rep => T % b
  | .refl => min (T % (2 * b)) (2 * b - T % (2 * b))
theorem spr_bd {k : Kd} {T b : Int} (hb : 0 < b) : 0 ≤ spr k T b ∧ spr k T b ≤ b := by
  have h1 := Int.emod_nonneg T (b := b) (by k_extra "om")
  have h2 := Int.emod_lt_of_pos T (b := b) hb
  have h3 := Int.emod_nonneg T (b := 2 * b) (by k_extra "om")
  have h4 := Int.emod_lt_of_pos T (b := 2 * b) (by k_extra "om")
  cases k <;> simp only [spr] <;> omega
theorem part_eq {T b : Int} (hb : 0 < b) : fr1 (T * 1 - T / b * b) (b * 1) = fr1 (T % b) b ∧ fr2 (T * 1 - T / b * b) (b * 1) = fr2 (T % b) b := by
  refine fr_eq (by k_extra "om") hb ?_
  rw [Int.emod_def]; grind
theorem refl_even {T b : Int} (hb : 0 < b) (h : T / b % 2 = 0) : spr .refl T b = T % b := by
  have h1 := Int.emod_nonneg T (b := b) (by k_extra "om")
  have h2 := Int.emod_lt_of_pos T (b := b) hb
  have e : T % (2 * b) = T % b := by
    have k : T = T % b + (2 * b) * (T / b / 2) := by
      have := Int.emod_add_mul_ediv T b
      have k2 : T / b = 2 * (T / b / 2) := by k_extra "om"
      grind
    have : T % (2 * b) = (T % b + (2 * b) * (T / b / 2)) % (2 * b) := by rw [← k]
    rw [this, Int.add_mul_emod_self_left]
    exact Int.emod_eq_of_lt h1 (by k_extra "om")
  simp only [spr]
  omega
theorem refl_odd {T b : Int} (hb : 0 < b) (h : T / b % 2 ≠ 0) : spr .refl T b = b - T % b := by
  have h1 := Int.emod_nonneg T (b := b) (by k_extra "om")
  have h2 := Int.emod_lt_of_pos T (b := b) hb
  have e : T % (2 * b) = T % b + b := by
    have k : T = (T % b + b) + (2 * b) * (T / b / 2) := by
      have := Int.emod_add_mul_ediv T b
      have k2 : T / b = 2 * (T / b / 2) + 1 := by k_extra "om"
      grind
    have : T % (2 * b) = ((T % b + b) + (2 * b) * (T / b / 2)) % (2 * b) := by rw [← k]
    rw [this, Int.add_mul_emod_self_left]
    exact Int.emod_eq_of_lt (by k_extra "om") (by k_extra "om")
  simp only [spr]
  omega
theorem one_minus_eq {c b : Int} (hb : 0 < b) : fr1 (1 * b - c * 1) (1 * b) = fr1 (b - c) b ∧ fr2 (1 * b - c * 1) (1 * b) = fr2 (b - c) b := by
  refine fr_eq (by k_extra "om") hb ?_
  grind
theorem sgn_neg {x : Int} : Int.sign x < 0 ↔ x < 0 := by
  rcases Int.lt_trichotomy x 0 with h | h | h
  · rw [Int.sign_eq_neg_one_of_neg h]; omega
  · subst h; simp
  · rw [Int.sign_eq_one_of_pos h]; omega
theorem sgn_pos {x : Int} : 0 < Int.sign x ↔ 0 < x := by
  rcases Int.lt_trichotomy x 0 with h | h | h
  · rw [Int.sign_eq_neg_one_of_neg h]; omega
  · subst h; simp
  · rw [Int.sign_eq_one_of_pos h]; omega
theorem sgn_zero {x : Int} : Int.sign x = 0 ↔ x = 0 := by
  rcases Int.lt_trichotomy x 0 with h | h | h
  · rw [Int.sign_eq_neg_one_of_neg h]; omega
  · subst h; simp
  · rw [Int.sign_eq_one_of_pos h]; omega
theorem sgn_le {x : Int} : Int.sign x ≤ 0 ↔ x ≤ 0 := by
  have := @sgn_pos x
  omega
def wgt (n al : Int) : Int := (2 * n * al + 255) / 510
theorem times_int_eq {A C : Int} : fr1 (A * C) (1 * 1) = fr1 (A * C) 1 ∧ fr2 (A * C) (1 * 1) = fr2 (A * C) 1 := ⟨rfl, rfl⟩
theorem plus_int_eq {A C : Int} : fr1 (A * 1 + C * 1) (1 * 1) = fr1 (A + C) 1 ∧ fr2 (A * 1 + C * 1) (1 * 1) = fr2 (A + C) 1 := by
  simp only [Int.mul_one]; exact ⟨trivial, trivial⟩
theorem less_eq {A C k : Int} (h : C - A = 2 * k) : fr1 (C * 2 - A * 2) (2 * 2) = fr1 k 1 ∧ fr2 (C * 2 - A * 2) (2 * 2) = fr2 k 1 := by
  refine fr_eq (by k_extra "om") (by k_extra "om") ?_
  omega
theorem rnd_num {x y W D : Int} (h1 : 0 ≤ x ∧ x ≤ 255) (h2 : 0 ≤ y ∧ y ≤ 255) (hW : 0 ≤ W ∧ W ≤ D) : 0 ≤ x * D + (y - x) * W ∧ x * D + (y - x) * W ≤ 255 * D := by
  have e : x * D + (y - x) * W = x * (D - W) + y * W := by grind
  have a1 : 0 ≤ x * (D - W) := Int.mul_nonneg h1.1 (by k_extra "om")
  have a2 : 0 ≤ y * W := Int.mul_nonneg h2.1 hW.1
  have a3 : x * (D - W) ≤ 255 * (D - W) := Int.mul_le_mul_of_nonneg_right h1.2 (by k_extra "om")
  have a4 : y * W ≤ 255 * W := Int.mul_le_mul_of_nonneg_right h2.2 hW.1
  rw [e]
  omega
theorem share_eq {x1 x2 b T : Int} (hb : 0 < b) (hx : x1 < x2) : fr1 ((T * 8 - x1 * b) * (8 * 8)) (b * 8 * (x2 * 8 - x1 * 8)) = fr1 (8 * T - x1 * b) ((x2 - x1) * b) ∧ fr2 ((T * 8 - x1 * b) * (8 * 8)) (b * 8 * (x2 * 8 - x1 * 8)) = fr2 (8 * T - x1 * b) ((x2 - x1) * b) := by
  refine fr_eq (Int.mul_pos (by k_extra "om") (by k_extra "om")) (Int.mul_pos (by k_extra "om") hb) ?_
  grind
end
end Mine

namespace Mine
section
abbrev tupO (vs : List Value) : Obj := { cls := .type "tuple", data := .seq vs.toArray }
abbrev frO (A B : Int) (t1 t2 : Tok) : Obj := { cls := .type "tuple", data := .seq #[.int (fr1 A B) t1, .int (fr2 A B) t2] }
inductive FracAt (h : Heap) (v : Value) (A B : Int) : Prop
  | mk (a : _) (t1 : _) (t2 : _) (q1 : v = .ref a) (q2 : IsTup h a #[.int (fr1 A B) t1, .int (fr2 A B) t2]) : FracAt h v A B

theorem frac_news {h₀ h : Heap} {L a : Addr} {news : List (Addr × Obj)} {A B : Int} {t1 t2 : Tok} (N : News h₀ L h news) (hm : (a, frO A B t1 t2) ∈ news) : FracAt h (.ref a) A B := ⟨_, _, _, rfl, News.isTup N hm⟩
theorem FracAt.open {h : Heap} {v : Value} {A B : Int} (x : FracAt h v A B) (h1 : 0 < B ∧ B < 2 ^ 28) (h3 : -(2 ^ 30) < A ∧ A < 2 ^ 30) :
    ∃ a t1 t2 x y, v = .ref a ∧ IsTup h a #[.int x t1, .int y t2] ∧ x = fr1 A B ∧ y = fr2 A B ∧ (0 < y ∧ y < 2 ^ 28) ∧ (-(2 ^ 30) < x ∧ x < 2 ^ 30) := by
  obtain ⟨a, t1, t2, rfl, i⟩ := x
  have p1 := fr2_pos (A := A) h1.1
  have p2 := fr2_le (A := A) h1.1
  have p3 := fr1_abs A B
  exact ⟨a, t1, t2, _, _, rfl, i, rfl, rfl, ⟨p1, by omega⟩, by omega⟩
theorem FracAt.keeps {h h' : Heap} {v : Value} {A B : Int} (x : FracAt h v A B) (hk : ∀ b o, h.get? b = some o → h'.get? b = some o) : FracAt h' v A B := let ⟨a, t1, t2, e, i⟩ := x; ⟨a, t1, t2, e, i.keeps hk⟩
theorem FracAt.gsub {h g : Heap} {v : Value} {A B : Int} (x : FracAt h v A B) (G : GSub h g ([] : List Addr)) : FracAt g v A B := x.keeps fun b o e => G b o e (fun h => nomatch h)
theorem FracAt.eq {h : Heap} {v : Value} {A B C D : Int} (x : FracAt h v A B) (e : fr1 A B = fr1 C D ∧ fr2 A B = fr2 C D) : FracAt h v C D := by
  obtain ⟨a, t1, t2, rfl, i⟩ := x
  exact ⟨a, t1, t2, rfl, by rw [← e.1, ← e.2]; exact i⟩
theorem zero_at {w : World} {h : Heap} (X : (hd.heap_39 w.params).In h) : FracAt h (.ref 92) 0 1 := ⟨92, _, _, rfl, tupK X (by k_is)⟩
theorem one_at {w : World} {h : Heap} (X : (hd.heap_39 w.params).In h) : FracAt h (.ref 93) 1 1 := ⟨93, _, _, rfl, tupK X (by k_is)⟩
theorem tupG {h g : Heap} {b : Addr} {items : Array Value} (x : IsTup h b items) (G : GSub h g ([] : List Addr)) : IsTup g b items := let ⟨o, ho, r⟩ := x; ⟨o, G b o ho (fun h => nomatch h), r⟩
theorem frO_of {A B C D : Int} (e : fr1 A B = fr1 C D ∧ fr2 A B = fr2 C D) (u1 u2 : Tok) : frO A B u1 u2 = frO C D u1 u2 := by unfold frO; rw [e.1, e.2]
theorem frO_eq {A B C D : Int} {t1 t2 : Tok} (hB : 0 < B) (hD : 0 < D) (h : A * D = C * B) : frO A B t1 t2 = frO C D t1 t2 := by
  obtain ⟨e1, e2⟩ := fr_eq hB hD h
  unfold frO; rw [e1, e2]

theorem rl_Fr_1 : True := by
  k_with "S" => (repeat' ((fail_if_success (with_reducible show wpAny _ _ (exec (Stmt.While _ _ _ _) _) _ _ _)); (fail_if_success (with_reducible show wpAny _ _ (exec (Stmt.For _ _ _ _ _) _) _ _ _)); (fail_if_success (with_reducible show wpAny _ _ (eval (Expr.ListComp _ _ _ _) _) _ _ _)); (fail_if_success (with_reducible show wpAny _ _ (exec (Stmt.Assign _ (Expr.ListComp _ _ _ _) _) _) _ _ _)); (fail_if_success (with_reducible show wpAny _ _ (call (Value.builtin "list.append") _) _ _ _)); (fail_if_success (with_reducible show RetM _ _ _ _ _ _ _ _ _)); (fail_if_success (with_reducible show wpAny _ _ (pyIter _) _ _ _)); first | (k_unfold; (try dsimp only)) | (k_end; wrow_close) | walk1 | (dsimp only; walk1) | fail "no step"))
  k_with "exec Raise some none" => (exfalso; omega)
  k_with "eval Name" => (k_here; k_dflt (first | (refine' nameX_L ?Fzq ?vzq ?_ ?azq ?bzq; (case bzq => exact rfl); (case Fzq => k_asm); (case azq => exact rfl); (case vzq => first | exact rfl | assumption); k_whole) | (refine' nameX_K ?Fzq ?Xzq ?Tzq ?ezq ?_ ?azq ?bzq; (case bzq => exact rfl); (case Fzq => k_asm); (case Xzq => k_asm); (case Tzq => k_asm); (case azq => exact rfl); (case ezq => k_is); k_whole)))
  trivial

section
variable {prog : Program} {w : World} {p : Program} {loose : List Str} {mean : ExcName → Option Value} {mg mb : Str → Option Value}
  {dp un : Nat} {gd : Option (List Code)} {cn : Str} {cs : Scope} {a : Addr} {ccd : Value} {cl : List (Str × Addr)} {outer : List Env} {A₀ : Around} {base h₀ : Heap} {L : Addr}
  {m : Str → Option Value} {news : List (Addr × Obj)} {s : Shared} {Q E : Value → Shared → Prop}
theorem news_drop {h : Heap} {own news : List (Addr × Obj)} (kN : News h₀ L h (own ++ news)) : News h₀ L h news := fun q hq => kN q (List.mem_append_right _ hq)
theorem news_pick {h : Heap} {own news : List (Addr × Obj)} {q : Addr × Obj} (kN : News h₀ L h (own ++ news)) (hm : q ∈ own) : News h₀ L h (q :: news) := fun x hx => by
  rcases List.mem_cons.mp hx with rfl | hx
  · exact kN _ (List.mem_append_left _ hm)
  · exact kN _ (List.mem_append_right _ hx)
theorem my_fdiv {x y : Int} {t u : Tok} {A : Around} (hb : 0 < y) (hs : y < 2 ^ 64) (h : Q (.int (x / y) s.toks) (bump s)) : wpAny (model prog w) A (binaryOp .FloorDiv (.int x t) (.int y u)) Q E s := by
  refine floordiv_int (by k_extra "om") (by rw [Int.fdiv_eq_ediv_of_nonneg _ (by k_extra "om")]; exact h) (Or.inl (PyProof.noPylong_of_log2 ?_))
  have h0 : y.natAbs ≠ 0 := by k_extra "om"
  have : y.natAbs.log2 < 64 := (Nat.log2_lt h0).mpr (by k_extra "om")
  omega
theorem my_mod {x y : Int} {t u : Tok} {A : Around} (hb : 0 < y) (h : Q (.int (x % y) s.toks) (bump s)) : wpAny (model prog w) A (binaryOp .Mod (.int x t) (.int y u)) Q E s :=
  mod_int' (by k_extra "om") (by rw [Int.fmod_eq_emod_of_nonneg _ (by k_extra "om")]; exact h)
theorem my_mulL {x y : Int} {t u : Tok} {A : Around} (h1 : -(2 ^ 62) < x ∧ x < 2 ^ 62) (h : Q (.int (x * y) s.toks) (bump s)) : wpAny (model prog w) A (binaryOp .Mult (.int x t) (.int y u)) Q E s :=
  mul_int h (PySem.IntMulOk.of_left (PySem.intBits_le_64 (by k_extra "om") (by k_extra "om")))
theorem my_mulR {x y : Int} {t u : Tok} {A : Around} (h1 : -(2 ^ 62) < y ∧ y < 2 ^ 62) (h : Q (.int (x * y) s.toks) (bump s)) : wpAny (model prog w) A (binaryOp .Mult (.int x t) (.int y u)) Q E s :=
  mul_int h (PySem.IntMulOk.of_right (PySem.intBits_le_64 (by k_extra "om") (by k_extra "om")))
end
theorem rl_Fr_2 : True := by
  k_with "binaryOp FloorDiv int int" => (refine' my_fdiv ?azq ?bzq ?_; (case azq => k_dflt k_extra "om"); (case bzq => k_dflt k_extra "om"); k_whole)
  k_with "binaryOp Mod int int" => (refine' my_mod ?azq ?_; (case azq => k_dflt k_extra "om"); k_whole)
  k_with "binaryOp Mult int int" => first | (refine' my_mulL ?qzq ?_; (case qzq => k_dflt k_extra "om"); k_whole) | (refine' my_mulR ?qzq ?_; (case qzq => k_dflt k_extra "om"); k_whole)
  trivial

section
variable {prog : Program} {w : World} {p : Program} {loose : List Str} {mean : ExcName → Option Value} {mg mb : Str → Option Value}
  {dp un : Nat} {gd : Option (List Code)} {cn : Str} {cs : Scope} {a : Addr} {ccd : Value} {cl : List (Str × Addr)} {outer : List Env} {A₀ : Around} {base h₀ : Heap} {L : Addr}
  {m : Str → Option Value} {news : List (Addr × Obj)} {s : Shared} {Q E : Value → Shared → Prop}

theorem common_divisor_spec {x y : Int} {t1 t2 : Tok} (zB : Below A₀ base outer h₀) (zF : Fr h₀ L s.heap m) (zX : (hd.heap_39 w.params).In h₀) (zN : News h₀ L s.heap news) (zT : Top p loose mean mg mb h₀) (zk : cs.kind = .function) (hd : dp + 2 < recursionLimit) (hu : un + 40 < cLine) (hy : 0 ≤ y)
    (ret : ∀ t s', Sm s s' → Fr h₀ L s'.heap m → News h₀ L s'.heap news → Q (.int (Int.gcd x y) t) s') :
    wpAny (model prog w) (ktrTop dp un gd cn cs L a ccd cl outer) (call (.ref 100) [.int x t1, .int y t2]) Q E s := by
  k_dflt (refine' enterM (mu := []) (binds := [(Str.ofString "one", .int x t1), (Str.ofString "other", .int y t2)]) zB zF zX zN (fun _ _ h => nomatch h) zT zk ?k6 ?k7 ?k8 ?k9 ?kB ?c2 ?c3 ?c4 ?c5 ?_; (case k6 => k_is); (case k7 => k_is); (case k8 => k_extra "om"); (case k9 => first | exact BindsTo.of_eq rfl | exact binds_K (Frag.In.keeps zX zF.keep) rfl (by k_is) rfl rfl rfl); (case c5 => decide); (case kB => exact locs rfl); (case c2 => exact rfl); (case c3 => exact rfl); (case c4 => exact rfl); k_whole; intro gg gL gs gS gG gF gN gB gX gT gA gE; (try dsimp only); (try k_fold))
  k_extra "S"
  k_dflt (refine while_b (fun n m₁ nw => nw = [] ∧ ∃ u v t1 t2, m₁ (Str.ofString "first") = some (.int u t1) ∧ m₁ (Str.ofString "second") = some (.int v t2) ∧ 0 ≤ u ∧ 0 ≤ v ∧ Int.gcd u v = Int.gcd x y ∧ n = v.toNat) (n₀ := y.toNat) (by assumption) News.nil ⟨rfl, _, _, _, _, rfl, rfl, ?_, hy, ?_, rfl⟩ ?_)
  · split <;> omega
  · rw [show (if x < 0 then -x else x) = (x.natAbs : Int) by k_extra "om"]; simp [Int.gcd]
  · intro n m₁ nw s1 S1 F N hJ
    refine hideG fun Gzq kzq => ?_
    obtain ⟨rfl, u, v, t1, t2, e1, e2, hu0, hv0, hgcd, rfl⟩ := hJ
    refine kzq ?_
    clear kzq Gzq
    k_extra "S"
    · refine Turned.mk _ _ (_) (by k_extra "sm") (by assumption) News.nil ?_ ⟨rfl, _, _, _, _, rfl, rfl, hv0, ?_, ?_, rfl⟩
      · have := Int.emod_lt_of_pos u (b := v) (by k_extra "om")
        have := Int.emod_nonneg u (b := v) (by k_extra "om")
        omega
      · exact Int.emod_nonneg u (by k_extra "om")
      · rw [gcd_step, hgcd]
    · (try dsimp only); k_unfold; (try dsimp only)
      have e : (u : Int) = Int.gcd x y := by
        rw [← hgcd, show v = 0 by k_extra "om"]; simp; omega
      rw [e]
      exact retM (by assumption) (by assumption) (fun kF kN => ret _ _ (by k_extra "sm") kF (fun q hq => kN q (List.mem_append_right _ hq)))
theorem rl_Fr_3 : True := by
  k_with "call ref" => (k_here; (with_reducible show wpAny _ _ (call (Value.ref 100) _) _ _ _); k_dflt (refine' common_divisor_spec ?cBzq ?cFzq ?cXzq ?cNzq ?cTzq ?ckzq ?cdzq ?cuzq ?p0zq ?_; (case cBzq => k_asm); (case cFzq => k_asm); (case cXzq => k_asm); (case cNzq => k_asm); (case cTzq => k_asm); (case ckzq => first | rfl | assumption); (case cdzq => k_extra "om"); (case cuzq => k_extra "om"); (case p0zq => l_fact); k_whole; intro _ _ _ _ _; (try k_sweep)))
  trivial

theorem fraction_spec {A' B' : Int} {t1 t2 : Tok} (zB : Below A₀ base outer h₀) (zF : Fr h₀ L s.heap m) (zX : (hd.heap_39 w.params).In h₀) (zN : News h₀ L s.heap news) (zT : Top p loose mean mg mb h₀) (zk : cs.kind = .function) (hd : dp + 3 < recursionLimit) (hu : un + 60 < cLine) (hB : 0 < B') (bA : -(2 ^ 62) < A' ∧ A' < 2 ^ 62) (bB : B' < 2 ^ 62)
    (ret : ∀ r u1 u2 s', Sm s s' → Fr h₀ L s'.heap m → News h₀ L s'.heap ((r, frO A' B' u1 u2) :: news) → Q (.ref r) s') :
    wpAny (model prog w) (ktrTop dp un gd cn cs L a ccd cl outer) (call (.ref 108) [.int A' t1, .int B' t2]) Q E s := by
  have hg := gpos (A := A') hB
  have hg2 : (Int.gcd A' B' : Int) ≤ B' := Int.le_of_dvd hB (Int.gcd_dvd_right _ _)
  k_dflt (refine' enterM (mu := []) (binds := [(Str.ofString "top", .int A' t1), (Str.ofString "bottom", .int B' t2)]) zB zF zX zN (fun _ _ h => nomatch h) zT zk ?k6 ?k7 ?k8 ?k9 ?kB ?c2 ?c3 ?c4 ?c5 ?_; (case k6 => k_is); (case k7 => k_is); (case k8 => k_extra "om"); (case k9 => first | exact BindsTo.of_eq rfl | exact binds_K (Frag.In.keeps zX zF.keep) rfl (by k_is) rfl rfl rfl); (case c5 => decide); (case kB => exact locs rfl); (case c2 => exact rfl); (case c3 => exact rfl); (case c4 => exact rfl); k_whole; intro gg gL gs gS gG gF gN gB gX gT gA gE; (try dsimp only); (try k_fold))
  k_extra "S"
  (all_goals (try dsimp only)); (all_goals (try k_unfold)); (all_goals (try dsimp only))
  exact retM (by assumption) (by assumption) (fun kF kN => ret _ _ _ _ (by k_extra "sm") kF (news_pick kN (by k_mem)))

theorem rl_Fr_4 : True := by
  k_with "call ref" => (k_here; (with_reducible show wpAny _ _ (call (Value.ref 108) _) _ _ _); k_dflt (refine' fraction_spec ?cBzq ?cFzq ?cXzq ?cNzq ?cTzq ?ckzq ?cdzq ?cuzq ?p0zq ?p1zq ?p2zq ?_; (case cBzq => k_asm); (case cFzq => k_asm); (case cXzq => k_asm); (case cNzq => k_asm); (case cTzq => k_asm); (case ckzq => first | rfl | assumption); (case cdzq => k_extra "om"); (case cuzq => k_extra "om"); (case p0zq => l_fact); (case p1zq => l_fact); (case p2zq => l_fact); k_whole; intro _ _ _ _ _ _ _; (try k_sweep)))
  trivial
theorem fraction1_spec {A' : Int} {t1 : Tok} (zB : Below A₀ base outer h₀) (zF : Fr h₀ L s.heap m) (zX : (hd.heap_39 w.params).In h₀) (zN : News h₀ L s.heap news) (zT : Top p loose mean mg mb h₀) (zk : cs.kind = .function) (hd : dp + 3 < recursionLimit) (hu : un + 60 < cLine) (bA : -(2 ^ 62) < A' ∧ A' < 2 ^ 62)
    (ret : ∀ r u1 u2 s', Sm s s' → Fr h₀ L s'.heap m → News h₀ L s'.heap ((r, frO A' 1 u1 u2) :: news) → Q (.ref r) s') :
    wpAny (model prog w) (ktrTop dp un gd cn cs L a ccd cl outer) (call (.ref 108) [.int A' t1]) Q E s := by
  have hg := gpos (A := A') (B := 1) (by k_extra "om")
  have hg2 : (Int.gcd A' 1 : Int) ≤ 1 := Int.le_of_dvd (by k_extra "om") (Int.gcd_dvd_right _ _)
  k_dflt (refine' enterM (mu := []) (binds := [(Str.ofString "top", .int A' t1), (Str.ofString "bottom", .int 1 311)]) zB zF zX zN (fun _ _ h => nomatch h) zT zk ?k6 ?k7 ?k8 ?k9 ?kB ?c2 ?c3 ?c4 ?c5 ?_; (case k6 => k_is); (case k7 => k_is); (case k8 => k_extra "om"); (case k9 => first | exact BindsTo.of_eq rfl | exact binds_K (Frag.In.keeps zX zF.keep) rfl (by k_is) rfl rfl rfl); (case c5 => decide); (case kB => exact locs rfl); (case c2 => exact rfl); (case c3 => exact rfl); (case c4 => exact rfl); k_whole; intro gg gL gs gS gG gF gN gB gX gT gA gE; (try dsimp only); (try k_fold))
  k_extra "S"
  (all_goals (try dsimp only)); (all_goals (try k_unfold)); (all_goals (try dsimp only))
  exact retM (by assumption) (by assumption) (fun kF kN => ret _ _ _ _ (by k_extra "sm") kF (news_pick kN (by k_mem)))
end
end
end Mine

namespace Mine
section
theorem rl_Ar_1 : True := by
  k_with "eval Call Name" => (k_here; (fail_if_success (with_reducible show wpAny _ _ (eval _ (compEnvC _ _ _ _)) _ _ _)); first | ((with_reducible show wpAny _ _ (eval (PySem.Expr.Call (PySem.Expr.Name _ _) [_] [] _) _) _ _ _); refine' call_g1 ?hnzq ?Xzq ?kpzq ?hezq ?_; (case hnzq => (intro _ hQ; k_dflt (refine' nameX_K ?Fzq ?X2zq ?Tzq ?ezq hQ ?azq ?bzq ?czq; (case bzq => exact rfl); (case Fzq => k_asm); (case X2zq => k_asm); (case Tzq => k_asm); (case azq => exact rfl); (case ezq => k_is); (case czq => decide)))); (case hezq => k_dflt (exact rfl)); (case Xzq => k_dflt k_asm); (case kpzq => k_dflt k_is); k_whole) | ((with_reducible show wpAny _ _ (eval (PySem.Expr.Call (PySem.Expr.Name _ _) [_, _] [] _) _) _ _ _); refine' call_g2 ?hnzq ?Xzq ?kpzq ?hezq ?he2zq ?_; (case hnzq => (intro _ hQ; k_dflt (refine' nameX_K ?Fzq ?X2zq ?Tzq ?ezq hQ ?azq ?bzq ?czq; (case bzq => exact rfl); (case Fzq => k_asm); (case X2zq => k_asm); (case Tzq => k_asm); (case azq => exact rfl); (case ezq => k_is); (case czq => decide)))); (case hezq => k_dflt (exact rfl)); (case he2zq => k_dflt (exact rfl)); (case Xzq => k_dflt k_asm); (case kpzq => k_dflt k_is); k_whole) | ((with_reducible show wpAny _ _ (eval (PySem.Expr.Call (PySem.Expr.Name _ _) [_, _, _] [] _) _) _ _ _); refine' call_g3 ?hnzq ?Xzq ?kpzq ?hezq ?he2zq ?he3zq ?_; (case hnzq => (intro _ hQ; k_dflt (refine' nameX_K ?Fzq ?X2zq ?Tzq ?ezq hQ ?azq ?bzq ?czq; (case bzq => exact rfl); (case Fzq => k_asm); (case X2zq => k_asm); (case Tzq => k_asm); (case azq => exact rfl); (case ezq => k_is); (case czq => decide)))); (case hezq => k_dflt (exact rfl)); (case he2zq => k_dflt (exact rfl)); (case he3zq => k_dflt (exact rfl)); (case Xzq => k_dflt k_asm); (case kpzq => k_dflt k_is); k_whole))
  k_with "And" => ((with_reducible show Frag.In _ _ ∧ _); refine And.intro (by k_in) ?_)
  k_with "k_in" => exact Frag.In.keeps (by with_reducible assumption) (Fr.keep (by with_reducible assumption))
  k_with "eval Name" => (k_here; (fail_if_success (with_reducible show wpAny _ _ (eval (Expr.Name _ _) (compEnvC _ _ _ _)) _ _ _)); k_dflt (first | (refine' nameX_L ?Fzq ?vzq ?_ ?azq ?bzq; (case bzq => exact rfl); (case Fzq => k_asm); (case azq => exact rfl); (case vzq => first | exact rfl | assumption); k_whole) | (refine' nameX_K ?Fzq ?Xzq ?Tzq ?ezq ?_ ?azq ?bzq; (case bzq => exact rfl); (case Fzq => k_asm); (case Xzq => k_asm); (case Tzq => k_asm); (case azq => exact rfl); (case ezq => k_is); k_whole)))
  k_with "eval Constant int" => (with_reducible refine int_b ?_)
  k_with "eval Constant str" => (with_reducible refine str_b ?_)
  k_with "binaryOp Add int int" => (with_reducible refine add_b ?_)
  k_with "binaryOp Sub int int" => (with_reducible refine sub_b ?_)
  k_with "storeName" => (k_here; k_dflt (refine' store_b ?Fzq ?Nzq ?_ ?azq ?bzq; (case Fzq => k_asm); (case Nzq => k_asm); (case azq => rfl); (case bzq => rfl); k_whole; intro _ _ _ _; (try k_sweep)))
  k_with "newTuple" => (k_here; k_dflt (refine' tuple_b ?Fzq ?Nzq ?_ ?zzq; (case Fzq => k_asm); (case Nzq => k_asm); (case zzq => kmk_size)); intro _ _ _ _ _; (try k_sweep))
  k_with "newList" => (k_here; k_dflt (refine' list_b ?Fzq ?Nzq ?_ ?zzq; (case Fzq => k_asm); (case Nzq => k_asm); (case zzq => size_fits)); intro _ _ _ _ _; (try k_sweep))
  k_with "getAttr ref" => (k_here; k_dflt (refine' get_b ?k1zq ?k2zq ?k3zq ?k4zq ?k5zq ?k6zq ?k7zq ?k8zq ?k9zq ?_; (case k1zq => k_asm); (case k2zq => k_asm); (case k3zq => k_inst); (case k4zq => k_is); (case k5zq => k_is); (case k6zq => k_is); (case k7zq => k_is); (case k8zq => k_get); (case k9zq => k_handed); k_whole))
  k_with "setAttr ref" => (k_here; k_dflt (refine' set_b ?k1zq ?k2zq ?k3zq ?k4zq ?k5zq ?k6zq ?k7zq ?k8zq ?k9zq ?k10zq ?k11zq ?k12zq ?k13zq ?_; (case k1zq => k_asm); (case k2zq => k_asm); (case k3zq => k_asm); (case k4zq => k_inst); (case k5zq => exact rfl); (case k6zq => k_is); (case k7zq => k_is); (case k8zq => k_is); (case k9zq => k_is); (case k10zq => k_get); (case k11zq => k_put); (case k12zq => k_upd); (case k13zq => exact Nat.le_of_ble_eq_true rfl); k_whole; intro _ _ _ _; (try k_sweep)))
  k_with "subscriptTail Name Constant ref int" => (k_here; k_dflt (refine' item_tupleT ?tzq ?azq ?bzq ?czq ?dzq ?_; (case tzq => (first | exact IsTup.keeps (by with_reducible assumption) (Fr.keep (by k_asm)) | exact News.isTup (by k_asm) (by k_mem) | exact tupK (Frag.In.keeps (by with_reducible assumption) (Fr.keep (by with_reducible assumption))) (by k_is))); (case azq => decide); (case bzq => decide); (case czq => rfl); (case dzq => rfl); k_whole))
  trivial

section
variable {prog : Program} {w : World} {p : Program} {loose : List Str} {mean : ExcName → Option Value} {mg mb : Str → Option Value}
  {dp un : Nat} {gd : Option (List Code)} {cn : Str} {cs : Scope} {a : Addr} {ccd : Value} {cl : List (Str × Addr)} {outer : List Env} {A₀ : Around} {base h₀ : Heap} {L : Addr}
  {m : Str → Option Value} {news : List (Addr × Obj)} {s : Shared} {Q E : Value → Shared → Prop}

theorem plus_spec {va vb : Value} {A1 B1 A2 B2 : Int} (zB : Below A₀ base outer h₀) (zF : Fr h₀ L s.heap m) (zX : (hd.heap_39 w.params).In h₀) (zN : News h₀ L s.heap news) (zT : Top p loose mean mg mb h₀) (zk : cs.kind = .function) (hd : dp + 4 < recursionLimit) (hu : un + 80 < cLine) (ha : FracAt s.heap va A1 B1) (hb : FracAt s.heap vb A2 B2) (h1 : 0 < B1 ∧ B1 < 2 ^ 28) (h2 : 0 < B2 ∧ B2 < 2 ^ 28) (h3 : -(2 ^ 30) < A1 ∧ A1 < 2 ^ 30) (h4 : -(2 ^ 30) < A2 ∧ A2 < 2 ^ 30)
    (ret : ∀ r u1 u2 s', Sm s s' → Fr h₀ L s'.heap m → News h₀ L s'.heap ((r, frO (A1 * B2 + A2 * B1) (B1 * B2) u1 u2) :: news) → Q (.ref r) s') :
    wpAny (model prog w) (ktrTop dp un gd cn cs L a ccd cl outer) (call (.ref 115) [va, vb]) Q E s := by
  obtain ⟨a1, t1, t2, x1, y1, rfl, ia, e1, e2, p1, p2⟩ := ha.open h1 h3
  obtain ⟨a2, t3, t4, x2, y2, rfl, ib, e3, e4, p3, p4⟩ := hb.open h2 h4
  have q1 := mul58 p2 p3
  have q2 := mul58 p4 p1
  have q3 := mul56 p1 p3
  k_dflt (refine' enterM (mu := []) (binds := [(Str.ofString "a", .ref a1), (Str.ofString "b", .ref a2)]) zB zF zX zN (fun _ _ h => nomatch h) zT zk ?k6 ?k7 ?k8 ?k9 ?kB ?c2 ?c3 ?c4 ?c5 ?_; (case k6 => k_is); (case k7 => k_is); (case k8 => k_extra "om"); (case k9 => first | exact BindsTo.of_eq rfl | exact binds_K (Frag.In.keeps zX zF.keep) rfl (by k_is) rfl rfl rfl); (case c5 => decide); (case kB => exact locs rfl); (case c2 => exact rfl); (case c3 => exact rfl); (case c4 => exact rfl); k_whole; intro gg gL gs gS gG gF gN gB gX gT gA gE; (try dsimp only); (try k_fold))
  have ja := tupG ia gG
  have jb := tupG ib gG
  k_extra "S"
  (all_goals (try dsimp only)); (all_goals (try k_unfold)); (all_goals (try dsimp only))
  have e := fr_plus (A := A1) (C := A2) h1.1 h2.1
  rw [← e1, ← e2, ← e3, ← e4] at e
  have e6 := fun u1 u2 => frO_of e u1 u2
  refine retM (by assumption) (by assumption) (fun kF kN => ?_)
  rw [e6] at kN
  exact ret _ _ _ _ (by k_extra "sm") kF (news_pick kN (by k_mem))
theorem minus_spec {va vb : Value} {A1 B1 A2 B2 : Int} (zB : Below A₀ base outer h₀) (zF : Fr h₀ L s.heap m) (zX : (hd.heap_39 w.params).In h₀) (zN : News h₀ L s.heap news) (zT : Top p loose mean mg mb h₀) (zk : cs.kind = .function) (hd : dp + 4 < recursionLimit) (hu : un + 80 < cLine) (ha : FracAt s.heap va A1 B1) (hb : FracAt s.heap vb A2 B2) (h1 : 0 < B1 ∧ B1 < 2 ^ 28) (h2 : 0 < B2 ∧ B2 < 2 ^ 28) (h3 : -(2 ^ 30) < A1 ∧ A1 < 2 ^ 30) (h4 : -(2 ^ 30) < A2 ∧ A2 < 2 ^ 30)
    (ret : ∀ r u1 u2 s', Sm s s' → Fr h₀ L s'.heap m → News h₀ L s'.heap ((r, frO (A1 * B2 - A2 * B1) (B1 * B2) u1 u2) :: news) → Q (.ref r) s') :
    wpAny (model prog w) (ktrTop dp un gd cn cs L a ccd cl outer) (call (.ref 122) [va, vb]) Q E s := by
  obtain ⟨a1, t1, t2, x1, y1, rfl, ia, e1, e2, p1, p2⟩ := ha.open h1 h3
  obtain ⟨a2, t3, t4, x2, y2, rfl, ib, e3, e4, p3, p4⟩ := hb.open h2 h4
  have q1 := mul58 p2 p3
  have q2 := mul58 p4 p1
  have q3 := mul56 p1 p3
  k_dflt (refine' enterM (mu := []) (binds := [(Str.ofString "a", .ref a1), (Str.ofString "b", .ref a2)]) zB zF zX zN (fun _ _ h => nomatch h) zT zk ?k6 ?k7 ?k8 ?k9 ?kB ?c2 ?c3 ?c4 ?c5 ?_; (case k6 => k_is); (case k7 => k_is); (case k8 => k_extra "om"); (case k9 => first | exact BindsTo.of_eq rfl | exact binds_K (Frag.In.keeps zX zF.keep) rfl (by k_is) rfl rfl rfl); (case c5 => decide); (case kB => exact locs rfl); (case c2 => exact rfl); (case c3 => exact rfl); (case c4 => exact rfl); k_whole; intro gg gL gs gS gG gF gN gB gX gT gA gE; (try dsimp only); (try k_fold))
  have ja := tupG ia gG
  have jb := tupG ib gG
  k_extra "S"
  (all_goals (try dsimp only)); (all_goals (try k_unfold)); (all_goals (try dsimp only))
  have e := fr_minus (A := A1) (C := A2) h1.1 h2.1
  rw [← e1, ← e2, ← e3, ← e4] at e
  have e6 := fun u1 u2 => frO_of e u1 u2
  refine retM (by assumption) (by assumption) (fun kF kN => ?_)
  rw [e6] at kN
  exact ret _ _ _ _ (by k_extra "sm") kF (news_pick kN (by k_mem))
theorem times_spec {va vb : Value} {A1 B1 A2 B2 : Int} (zB : Below A₀ base outer h₀) (zF : Fr h₀ L s.heap m) (zX : (hd.heap_39 w.params).In h₀) (zN : News h₀ L s.heap news) (zT : Top p loose mean mg mb h₀) (zk : cs.kind = .function) (hd : dp + 4 < recursionLimit) (hu : un + 80 < cLine) (ha : FracAt s.heap va A1 B1) (hb : FracAt s.heap vb A2 B2) (h1 : 0 < B1 ∧ B1 < 2 ^ 28) (h2 : 0 < B2 ∧ B2 < 2 ^ 28) (h3 : -(2 ^ 30) < A1 ∧ A1 < 2 ^ 30) (h4 : -(2 ^ 30) < A2 ∧ A2 < 2 ^ 30)
    (ret : ∀ r u1 u2 s', Sm s s' → Fr h₀ L s'.heap m → News h₀ L s'.heap ((r, frO (A1 * A2) (B1 * B2) u1 u2) :: news) → Q (.ref r) s') :
    wpAny (model prog w) (ktrTop dp un gd cn cs L a ccd cl outer) (call (.ref 129) [va, vb]) Q E s := by
  obtain ⟨a1, t1, t2, x1, y1, rfl, ia, e1, e2, p1, p2⟩ := ha.open h1 h3
  obtain ⟨a2, t3, t4, x2, y2, rfl, ib, e3, e4, p3, p4⟩ := hb.open h2 h4
  have q1 := mul60 p2 p4
  have q3 := mul56 p1 p3
  k_dflt (refine' enterM (mu := []) (binds := [(Str.ofString "a", .ref a1), (Str.ofString "b", .ref a2)]) zB zF zX zN (fun _ _ h => nomatch h) zT zk ?k6 ?k7 ?k8 ?k9 ?kB ?c2 ?c3 ?c4 ?c5 ?_; (case k6 => k_is); (case k7 => k_is); (case k8 => k_extra "om"); (case k9 => first | exact BindsTo.of_eq rfl | exact binds_K (Frag.In.keeps zX zF.keep) rfl (by k_is) rfl rfl rfl); (case c5 => decide); (case kB => exact locs rfl); (case c2 => exact rfl); (case c3 => exact rfl); (case c4 => exact rfl); k_whole; intro gg gL gs gS gG gF gN gB gX gT gA gE; (try dsimp only); (try k_fold))
  have ja := tupG ia gG
  have jb := tupG ib gG
  k_extra "S"
  (all_goals (try dsimp only)); (all_goals (try k_unfold)); (all_goals (try dsimp only))
  have e := fr_times (A := A1) (C := A2) h1.1 h2.1
  rw [← e1, ← e2, ← e3, ← e4] at e
  have e6 := fun u1 u2 => frO_of e u1 u2
  refine retM (by assumption) (by assumption) (fun kF kN => ?_)
  rw [e6] at kN
  exact ret _ _ _ _ (by k_extra "sm") kF (news_pick kN (by k_mem))
theorem divided_spec {va vb : Value} {A1 B1 A2 B2 : Int} (zB : Below A₀ base outer h₀) (zF : Fr h₀ L s.heap m) (zX : (hd.heap_39 w.params).In h₀) (zN : News h₀ L s.heap news) (zT : Top p loose mean mg mb h₀) (zk : cs.kind = .function) (hd : dp + 4 < recursionLimit) (hu : un + 80 < cLine) (ha : FracAt s.heap va A1 B1) (hb : FracAt s.heap vb A2 B2) (h1 : 0 < B1 ∧ B1 < 2 ^ 28) (h2 : 0 < B2 ∧ B2 < 2 ^ 28) (h3 : -(2 ^ 30) < A1 ∧ A1 < 2 ^ 30) (h4 : -(2 ^ 30) < A2 ∧ A2 < 2 ^ 30) (h5 : 0 < A2)
    (ret : ∀ r u1 u2 s', Sm s s' → Fr h₀ L s'.heap m → News h₀ L s'.heap ((r, frO (A1 * B2) (B1 * A2) u1 u2) :: news) → Q (.ref r) s') :
    wpAny (model prog w) (ktrTop dp un gd cn cs L a ccd cl outer) (call (.ref 136) [va, vb]) Q E s := by
  obtain ⟨a1, t1, t2, x1, y1, rfl, ia, e1, e2, p1, p2⟩ := ha.open h1 h3
  obtain ⟨a2, t3, t4, x2, y2, rfl, ib, e3, e4, p3, p4⟩ := hb.open h2 h4
  have q0 := fr1_pos h5 h2.1
  rw [← e3] at q0
  have q1 := mul58 p2 p3
  have q2 := mul58 p4 p1
  have q3 := Int.mul_pos p1.1 q0
  have q4 := Int.mul_comm x2 y1
  k_dflt (refine' enterM (mu := []) (binds := [(Str.ofString "a", .ref a1), (Str.ofString "b", .ref a2)]) zB zF zX zN (fun _ _ h => nomatch h) zT zk ?k6 ?k7 ?k8 ?k9 ?kB ?c2 ?c3 ?c4 ?c5 ?_; (case k6 => k_is); (case k7 => k_is); (case k8 => k_extra "om"); (case k9 => first | exact BindsTo.of_eq rfl | exact binds_K (Frag.In.keeps zX zF.keep) rfl (by k_is) rfl rfl rfl); (case c5 => decide); (case kB => exact locs rfl); (case c2 => exact rfl); (case c3 => exact rfl); (case c4 => exact rfl); k_whole; intro gg gL gs gS gG gF gN gB gX gT gA gE; (try dsimp only); (try k_fold))
  have ja := tupG ia gG
  have jb := tupG ib gG
  k_extra "S"
  (all_goals (try dsimp only)); (all_goals (try k_unfold)); (all_goals (try dsimp only))
  have e := fr_div (A := A1) (C := A2) h1.1 h5 h2.1
  rw [← e1, ← e2, ← e3, ← e4] at e
  have e6 := fun u1 u2 => frO_of e u1 u2
  refine retM (by assumption) (by assumption) (fun kF kN => ?_)
  rw [e6] at kN
  exact ret _ _ _ _ (by k_extra "sm") kF (news_pick kN (by k_mem))
end
end
end Mine

namespace Mine
section

section
variable {prog : Program} {w : World} {p : Program} {loose : List Str} {mean : ExcName → Option Value} {mg mb : Str → Option Value}
  {dp un : Nat} {gd : Option (List Code)} {cn : Str} {cs : Scope} {a : Addr} {ccd : Value} {cl : List (Str × Addr)} {outer : List Env} {A₀ : Around} {base h₀ : Heap} {L : Addr}
  {m : Str → Option Value} {news : List (Addr × Obj)} {s : Shared} {Q E : Value → Shared → Prop}
theorem sign_of_spec {b : Addr} {x : Int} {t : Tok} {v : Value} (zB : Below A₀ base outer h₀) (zF : Fr h₀ L s.heap m) (zX : (hd.heap_39 w.params).In h₀) (zN : News h₀ L s.heap news) (zT : Top p loose mean mg mb h₀) (zk : cs.kind = .function) (hd : dp + 2 < recursionLimit) (hu : un + 40 < cLine) (ha : IsTup s.heap b #[.int x t, v])
    (ret : ∀ u s', Sm s s' → Fr h₀ L s'.heap m → News h₀ L s'.heap news → Q (.int (Int.sign x) u) s') :
    wpAny (model prog w) (ktrTop dp un gd cn cs L a ccd cl outer) (call (.ref 150) [.ref b]) Q E s := by
  k_dflt (refine' enterM (mu := []) (binds := [(Str.ofString "a", .ref b)]) zB zF zX zN (fun _ _ h => nomatch h) zT zk ?k6 ?k7 ?k8 ?k9 ?kB ?c2 ?c3 ?c4 ?c5 ?_; (case k6 => k_is); (case k7 => k_is); (case k8 => k_extra "om"); (case k9 => first | exact BindsTo.of_eq rfl | exact binds_K (Frag.In.keeps zX zF.keep) rfl (by k_is) rfl rfl rfl); (case c5 => decide); (case kB => exact locs rfl); (case c2 => exact rfl); (case c3 => exact rfl); (case c4 => exact rfl); k_whole; intro gg gL gs gS gG gF gN gB gX gT gA gE; (try dsimp only); (try k_fold))
  have ja := tupG ha gG
  k_extra "S"
  (all_goals (try dsimp only)); (all_goals (try k_unfold)); (all_goals (try dsimp only))
  · rw [Int.sign_eq_one_of_pos (by k_extra "om")] at ret
    exact retM (by assumption) (by assumption) (fun kF kN => ret _ _ (by k_extra "sm") kF (news_drop kN))
  · rw [Int.sign_eq_neg_one_of_neg (by k_extra "om")] at ret
    exact retM (by assumption) (by assumption) (fun kF kN => ret _ _ (by k_extra "sm") kF (news_drop kN))
  · rw [show x = 0 by k_extra "om", Int.sign_zero] at ret
    exact retM (by assumption) (by assumption) (fun kF kN => ret _ _ (by k_extra "sm") kF (news_drop kN))

theorem rl_Cmp_2 : True := by
  k_with "call ref" => (k_here; (with_reducible show wpAny _ _ (call (Value.ref 150) _) _ _ _); k_dflt (refine' sign_of_spec ?cBzq ?cFzq ?cXzq ?cNzq ?cTzq ?ckzq ?cdzq ?cuzq ?p0zq ?_; (case cBzq => k_asm); (case cFzq => k_asm); (case cXzq => k_asm); (case cNzq => k_asm); (case cTzq => k_asm); (case ckzq => first | rfl | assumption); (case cdzq => k_extra "om"); (case cuzq => k_extra "om"); (case p0zq => (first | exact IsTup.keeps (by with_reducible assumption) (Fr.keep (by k_asm)) | exact News.isTup (by k_asm) (by k_mem) | exact tupK (Frag.In.keeps (by with_reducible assumption) (Fr.keep (by with_reducible assumption))) (by k_is))); k_whole; intro _ _ _ _ _; (try k_sweep)))
  trivial

theorem compare_spec {va vb : Value} {A1 B1 A2 B2 : Int} (zB : Below A₀ base outer h₀) (zF : Fr h₀ L s.heap m) (zX : (hd.heap_39 w.params).In h₀) (zN : News h₀ L s.heap news) (zT : Top p loose mean mg mb h₀) (zk : cs.kind = .function) (hd : dp + 3 < recursionLimit) (hu : un + 60 < cLine) (ha : FracAt s.heap va A1 B1) (hb : FracAt s.heap vb A2 B2) (h1 : 0 < B1 ∧ B1 < 2 ^ 28) (h2 : 0 < B2 ∧ B2 < 2 ^ 28) (h3 : -(2 ^ 30) < A1 ∧ A1 < 2 ^ 30) (h4 : -(2 ^ 30) < A2 ∧ A2 < 2 ^ 30)
    (ret : ∀ u s', Sm s s' → Fr h₀ L s'.heap m → News h₀ L s'.heap news → Q (.int (Int.sign (A1 * B2 - A2 * B1)) u) s') :
    wpAny (model prog w) (ktrTop dp un gd cn cs L a ccd cl outer) (call (.ref 157) [va, vb]) Q E s := by
  obtain ⟨a1, t1, t2, x1, y1, rfl, ia, e1, e2, p1, p2⟩ := ha.open h1 h3
  obtain ⟨a2, t3, t4, x2, y2, rfl, ib, e3, e4, p3, p4⟩ := hb.open h2 h4
  have e := fr_sign (A := A1) (C := A2) h1.1 h2.1
  rw [← e1, ← e2, ← e3, ← e4] at e
  k_dflt (refine' enterM (mu := []) (binds := [(Str.ofString "a", .ref a1), (Str.ofString "b", .ref a2)]) zB zF zX zN (fun _ _ h => nomatch h) zT zk ?k6 ?k7 ?k8 ?k9 ?kB ?c2 ?c3 ?c4 ?c5 ?_; (case k6 => k_is); (case k7 => k_is); (case k8 => k_extra "om"); (case k9 => first | exact BindsTo.of_eq rfl | exact binds_K (Frag.In.keeps zX zF.keep) rfl (by k_is) rfl rfl rfl); (case c5 => decide); (case kB => exact locs rfl); (case c2 => exact rfl); (case c3 => exact rfl); (case c4 => exact rfl); k_whole; intro gg gL gs gS gG gF gN gB gX gT gA gE; (try dsimp only); (try k_fold))
  have ja := tupG ia gG
  have jb := tupG ib gG
  k_extra "S"
  (all_goals (try dsimp only)); (all_goals (try k_unfold)); (all_goals (try dsimp only))
  rw [← e] at ret
  exact retM (by assumption) (by assumption) (fun kF kN => ret _ _ (by k_extra "sm") kF (news_drop kN))

theorem floor_of_spec {va : Value} {A1 B1 : Int} (zB : Below A₀ base outer h₀) (zF : Fr h₀ L s.heap m) (zX : (hd.heap_39 w.params).In h₀) (zN : News h₀ L s.heap news) (zT : Top p loose mean mg mb h₀) (zk : cs.kind = .function) (hd : dp + 2 < recursionLimit) (hu : un + 40 < cLine) (ha : FracAt s.heap va A1 B1) (h1 : 0 < B1 ∧ B1 < 2 ^ 28) (h3 : -(2 ^ 30) < A1 ∧ A1 < 2 ^ 30)
    (ret : ∀ u s', Sm s s' → Fr h₀ L s'.heap m → News h₀ L s'.heap news → Q (.int (A1 / B1) u) s') :
    wpAny (model prog w) (ktrTop dp un gd cn cs L a ccd cl outer) (call (.ref 164) [va]) Q E s := by
  obtain ⟨a1, t1, t2, x1, y1, rfl, ia, e1, e2, p1, p2⟩ := ha.open h1 h3
  have e := fr_floor (A := A1) h1.1
  rw [← e1, ← e2] at e
  k_dflt (refine' enterM (mu := []) (binds := [(Str.ofString "a", .ref a1)]) zB zF zX zN (fun _ _ h => nomatch h) zT zk ?k6 ?k7 ?k8 ?k9 ?kB ?c2 ?c3 ?c4 ?c5 ?_; (case k6 => k_is); (case k7 => k_is); (case k8 => k_extra "om"); (case k9 => first | exact BindsTo.of_eq rfl | exact binds_K (Frag.In.keeps zX zF.keep) rfl (by k_is) rfl rfl rfl); (case c5 => decide); (case kB => exact locs rfl); (case c2 => exact rfl); (case c3 => exact rfl); (case c4 => exact rfl); k_whole; intro gg gL gs gS gG gF gN gB gX gT gA gE; (try dsimp only); (try k_fold))
  have ja := tupG ia gG
  k_extra "S"
  (all_goals (try dsimp only)); (all_goals (try k_unfold)); (all_goals (try dsimp only))
  rw [← e] at ret
  exact retM (by assumption) (by assumption) (fun kF kN => ret _ _ (by k_extra "sm") kF (news_drop kN))

theorem rounded_spec {va : Value} {A1 B1 : Int} (zB : Below A₀ base outer h₀) (zF : Fr h₀ L s.heap m) (zX : (hd.heap_39 w.params).In h₀) (zN : News h₀ L s.heap news) (zT : Top p loose mean mg mb h₀) (zk : cs.kind = .function) (hd : dp + 2 < recursionLimit) (hu : un + 40 < cLine) (ha : FracAt s.heap va A1 B1) (h1 : 0 < B1 ∧ B1 < 2 ^ 28) (h3 : -(2 ^ 30) < A1 ∧ A1 < 2 ^ 30)
    (ret : ∀ u s', Sm s s' → Fr h₀ L s'.heap m → News h₀ L s'.heap news → Q (.int ((2 * A1 + B1) / (2 * B1)) u) s') :
    wpAny (model prog w) (ktrTop dp un gd cn cs L a ccd cl outer) (call (.ref 171) [va]) Q E s := by
  obtain ⟨a1, t1, t2, x1, y1, rfl, ia, e1, e2, p1, p2⟩ := ha.open h1 h3
  have e := fr_round (A := A1) h1.1
  rw [← e1, ← e2] at e
  k_dflt (refine' enterM (mu := []) (binds := [(Str.ofString "a", .ref a1)]) zB zF zX zN (fun _ _ h => nomatch h) zT zk ?k6 ?k7 ?k8 ?k9 ?kB ?c2 ?c3 ?c4 ?c5 ?_; (case k6 => k_is); (case k7 => k_is); (case k8 => k_extra "om"); (case k9 => first | exact BindsTo.of_eq rfl | exact binds_K (Frag.In.keeps zX zF.keep) rfl (by k_is) rfl rfl rfl); (case c5 => decide); (case kB => exact locs rfl); (case c2 => exact rfl); (case c3 => exact rfl); (case c4 => exact rfl); k_whole; intro gg gL gs gS gG gF gN gB gX gT gA gE; (try dsimp only); (try k_fold))
  have ja := tupG ia gG
  k_extra "S"
  (all_goals (try dsimp only)); (all_goals (try k_unfold)); (all_goals (try dsimp only))
  rw [← e] at ret
  exact retM (by assumption) (by assumption) (fun kF kN => ret _ _ (by k_extra "sm") kF (news_drop kN))
end
end
end Mine

namespace Mine
section

section
variable {prog : Program} {w : World} {p : Program} {loose : List Str} {mean : ExcName → Option Value} {mg mb : Str → Option Value}
  {dp un : Nat} {gd : Option (List Code)} {cn : Str} {cs : Scope} {a : Addr} {ccd : Value} {cl : List (Str × Addr)} {outer : List Env} {A₀ : Around} {base h₀ : Heap} {L : Addr}
  {m : Str → Option Value} {news : List (Addr × Obj)} {s : Shared} {Q E : Value → Shared → Prop}
theorem root_floor_spec {K2 k : Int} {t1 : Tok} (zB : Below A₀ base outer h₀) (zF : Fr h₀ L s.heap m) (zX : (hd.heap_39 w.params).In h₀) (zN : News h₀ L s.heap news) (zT : Top p loose mean mg mb h₀) (zk : cs.kind = .function) (hd : dp + 2 < recursionLimit) (hu : un + 40 < cLine) (hN : K2 = k * k) (hk0 : 0 ≤ k ∧ k < 2 ^ 28)
    (ret : ∀ u s', Sm s s' → Fr h₀ L s'.heap m → News h₀ L s'.heap news → Q (.int k u) s') :
    wpAny (model prog w) (ktrTop dp un gd cn cs L a ccd cl outer) (call (.ref 178) [.int K2 t1]) Q E s := by
  have hNk : 0 < k → 0 < K2 := fun h => by subst hN; exact Int.mul_pos h h
  have hN0 : k = 0 → K2 = 0 := fun h => by subst hN; subst h; rfl
  k_dflt (refine' enterM (mu := []) (binds := [(Str.ofString "n", .int K2 t1)]) zB zF zX zN (fun _ _ h => nomatch h) zT zk ?k6 ?k7 ?k8 ?k9 ?kB ?c2 ?c3 ?c4 ?c5 ?_; (case k6 => k_is); (case k7 => k_is); (case k8 => k_extra "om"); (case k9 => first | exact BindsTo.of_eq rfl | exact binds_K (Frag.In.keeps zX zF.keep) rfl (by k_is) rfl rfl rfl); (case c5 => decide); (case kB => exact locs rfl); (case c2 => exact rfl); (case c3 => exact rfl); (case c4 => exact rfl); k_whole; intro gg gL gs gS gG gF gN gB gX gT gA gE; (try dsimp only); (try k_fold))
  k_extra "S"
  (all_goals (try dsimp only)); (all_goals (try k_unfold)); (all_goals (try dsimp only))
  · have : k = 0 := by
      rcases Int.lt_or_le 0 k with h | h
      · have := hNk h; omega
      · omega
    subst this
    exact retM (by assumption) (by assumption) (fun kF kN => ret _ _ (by k_extra "sm") kF (news_drop kN))
  · have hk1 : 0 < k := by
      rcases Int.lt_or_le 0 k with h | h
      · exact h
      · exact absurd (hN0 (by k_extra "om")) (by assumption)
    k_dflt (refine while_b (fun n m₁ nw => nw = [] ∧ ∃ f t t2, m₁ (Str.ofString "found") = some (.int f t) ∧ m₁ (Str.ofString "n") = some (.int K2 t2) ∧ 1 ≤ f ∧ f ≤ 2 * k + 1 ∧ n = (2 * k + 2 - f).toNat) (n₀ := (2 * k + 1).toNat) (by assumption) News.nil ?_ ?_)
    · exact ⟨rfl, _, _, _, rfl, rfl, by k_extra "om", by k_extra "om", by k_extra "om"⟩
    intro n m₁ nw s1 S1 F N' hJ
    refine hideG fun Gzq kzq => ?_
    obtain ⟨rfl, f, t, t2, q1, q2, hf1, hf2, rfl⟩ := hJ
    refine kzq ?_
    clear kzq Gzq
    k_extra "S"
    · have := sq_le (f := f) (k := k) (by k_extra "om") (by rw [← hN]; assumption)
      refine Turned.mk _ _ ((2 * k + 2 - f * 2).toNat) (by k_extra "sm") (by assumption) News.nil ?_ ?_
      · omega
      · exact ⟨rfl, _, _, _, rfl, q2, by k_extra "om", by k_extra "om", rfl⟩
    · have hkf : k < f := sq_lt (by k_extra "om") (by rw [← hN]; assumption) (by k_extra "om")
      k_extra "S"
      k_dflt (refine while_b (fun n m₁ nw => nw = [] ∧ ∃ f t t2 t3, m₁ (Str.ofString "found") = some (.int f t) ∧ m₁ (Str.ofString "n") = some (.int K2 t2) ∧ m₁ (Str.ofString "lower") = some (.int ((f + K2 / f) / 2) t3) ∧ k ≤ f ∧ f < 2 ^ 30 ∧ n = f.toNat) (n₀ := f.toNat) (by assumption) News.nil ?_ ?_)
      · exact ⟨rfl, _, _, _, _, q1, q2, rfl, by k_extra "om", by k_extra "om", rfl⟩
      intro n m₁ nw s1 S1 F N' hJ
      refine hideG fun Gzq kzq => ?_
      obtain ⟨rfl, f, t, t2, t3, q1, q2, q3, hf1, hf2, rfl⟩ := hJ
      refine kzq ?_
      clear kzq Gzq
      have n1 := newton_ge (f := f) (k := k) (by k_extra "om")
      rw [← hN] at n1
      k_extra "S"
      · refine Turned.mk _ _ (((f + K2 / f) / 2).toNat) (by k_extra "sm") (by assumption) News.nil ?_ ?_
        · omega
        · exact ⟨rfl, _, _, _, _, rfl, q2, rfl, by k_extra "om", by k_extra "om", rfl⟩
      · (all_goals (try dsimp only)); (all_goals (try k_unfold)); (all_goals (try dsimp only))
        have hfk : f = k := by
          rcases Int.lt_or_le k f with h | h
          · have := newton_lt hk1 h
            rw [← hN] at this
            omega
          · omega
        subst hfk
        exact retM (by assumption) (by assumption) (fun kF kN => ret _ _ (by k_extra "sm") kF (news_drop kN))
end
end
end Mine

namespace Mine
section

section
variable {prog : Program} {w : World} {p : Program} {loose : List Str} {mean : ExcName → Option Value} {mg mb : Str → Option Value}
  {dp un : Nat} {gd : Option (List Code)} {cn : Str} {cs : Scope} {a : Addr} {ccd : Value} {cl : List (Str × Addr)} {outer : List Env} {A₀ : Around} {base h₀ : Heap} {L : Addr}
  {m : Str → Option Value} {news : List (Addr × Obj)} {s : Shared} {Q E : Value → Shared → Prop}
theorem kinds_at {h : Heap} (X : (hd.heap_39 w.params).In h) : ∃ items, IsTup h 186 items ∧ StrsAre items.toList [Kd.pad.str, Kd.rep.str, Kd.refl.str] :=
  ⟨_, tupK X (by k_is), .cons _ _ (.cons _ _ (.cons _ _ .nil))⟩
theorem notin_kinds {k : Kd} {u : Tok} {A : Around} (X : (hd.heap_39 w.params).In s.heap) (h : Q (.bool false) s) : wpAny (model prog w) A (compareOp .NotIn (.str k.str u) (.ref 186)) Q E s := by
  obtain ⟨items, i, st⟩ := kinds_at X
  refine notin_tuple_strs i st ?_
  cases k
  · rw [show (!([Kd.pad.str, Kd.rep.str, Kd.refl.str].any (· == Kd.pad.str))) = false by decide +kernel]; exact h
  · rw [show (!([Kd.pad.str, Kd.rep.str, Kd.refl.str].any (· == Kd.rep.str))) = false by decide +kernel]; exact h
  · rw [show (!([Kd.pad.str, Kd.rep.str, Kd.refl.str].any (· == Kd.refl.str))) = false by decide +kernel]; exact h
theorem notin_none {u : Tok} {A : Around} (X : (hd.heap_39 w.params).In s.heap) (h : Q (.bool true) s) : wpAny (model prog w) A (compareOp .NotIn (.str (Str.ofString "none") u) (.ref 186)) Q E s := by
  obtain ⟨items, i, st⟩ := kinds_at X
  refine notin_tuple_strs i st ?_
  rw [show (!([Kd.pad.str, Kd.rep.str, Kd.refl.str].any (· == Str.ofString "none"))) = true by decide +kernel]; exact h
end
theorem rl_Spr_2 : True := by
  k_with "compareOp NotIn str ref" => (k_here; k_dflt (refine notin_kinds (Frag.In.keeps (by assumption) (Fr.keep (by k_asm))) ?_))
  trivial
section
variable {prog : Program} {w : World} {p : Program} {loose : List Str} {mean : ExcName → Option Value} {mg mb : Str → Option Value}
  {dp un : Nat} {gd : Option (List Code)} {cn : Str} {cs : Scope} {a : Addr} {ccd : Value} {cl : List (Str × Addr)} {outer : List Env} {A₀ : Around} {base h₀ : Heap} {L : Addr}
  {m : Str → Option Value} {news : List (Addr × Obj)} {s : Shared} {Q E : Value → Shared → Prop}
theorem check_kind_spec {k : Kd} {x : Str} {t : Tok} (zB : Below A₀ base outer h₀) (zF : Fr h₀ L s.heap m) (zX : (hd.heap_39 w.params).In h₀) (zN : News h₀ L s.heap news) (zT : Top p loose mean mg mb h₀) (zk : cs.kind = .function) (hd : dp + 1 < recursionLimit) (hu : un + 20 < cLine) (hx : k.str = x)
    (ret : ∀ s', Sm s s' → Fr h₀ L s'.heap m → News h₀ L s'.heap news → Q .none s') :
    wpAny (model prog w) (ktrTop dp un gd cn cs L a ccd cl outer) (call (.ref 193) [.str x t]) Q E s := by
  subst hx
  k_dflt (refine' enterM (mu := []) (binds := [(Str.ofString "kind", .str k.str t)]) zB zF zX zN (fun _ _ h => nomatch h) zT zk ?k6 ?k7 ?k8 ?k9 ?kB ?c2 ?c3 ?c4 ?c5 ?_; (case k6 => k_is); (case k7 => k_is); (case k8 => k_extra "om"); (case k9 => first | exact BindsTo.of_eq rfl | exact binds_K (Frag.In.keeps zX zF.keep) rfl (by k_is) rfl rfl rfl); (case c5 => decide); (case kB => exact locs rfl); (case c2 => exact rfl); (case c3 => exact rfl); (case c4 => exact rfl); k_whole; intro gg gL gs gS gG gF gN gB gX gT gA gE; (try dsimp only); (try k_fold))
  k_extra "S"
  (all_goals (try dsimp only)); (all_goals (try k_unfold)); (all_goals (try dsimp only))
  exact retM (by assumption) (by assumption) (fun kF kN => ret _ (by k_extra "sm") kF (news_drop kN))

theorem rl_Spr_3 : True := by
  k_with "call ref" => (k_here; (with_reducible show wpAny _ _ (call (Value.ref 193) _) _ _ _); k_dflt (refine' check_kind_spec ?cBzq ?cFzq ?cXzq ?cNzq ?cTzq ?ckzq ?cdzq ?cuzq ?p0zq ?_; (case cBzq => k_asm); (case cFzq => k_asm); (case cXzq => k_asm); (case cNzq => k_asm); (case cTzq => k_asm); (case ckzq => first | rfl | assumption); (case cdzq => k_extra "om"); (case cuzq => k_extra "om"); (case p0zq => (first | exact (rfl : Kd.pad.str = _) | exact (rfl : Kd.rep.str = _) | exact (rfl : Kd.refl.str = _) | rfl)); k_whole; intro _ _ _ _; (try k_sweep)))
  k_with "call ref" => (k_here; (with_reducible show wpAny _ _ (call (Value.ref 164) _) _ _ _); k_dflt (refine' floor_of_spec ?cBzq ?cFzq ?cXzq ?cNzq ?cTzq ?ckzq ?cdzq ?cuzq ?p0zq ?p1zq ?p2zq ?_; (case cBzq => k_asm); (case cFzq => k_asm); (case cXzq => k_asm); (case cNzq => k_asm); (case cTzq => k_asm); (case ckzq => first | rfl | assumption); (case cdzq => k_extra "om"); (case cuzq => k_extra "om"); (case p0zq => (first | exact FracAt.keeps (by with_reducible assumption) (Fr.keep (by k_asm)) | exact frac_news (by k_asm) (by k_mem) | exact zero_at (Frag.In.keeps (by with_reducible assumption) (Fr.keep (by with_reducible assumption))) | exact one_at (Frag.In.keeps (by with_reducible assumption) (Fr.keep (by with_reducible assumption))) | assumption)); (case p1zq => k_extra "om"); (case p2zq => k_extra "om"); k_whole; intro _ _ _ _ _; (try k_sweep)))
  k_with "call ref" => (k_here; (with_reducible show wpAny _ _ (call (Value.ref 108) _) _ _ _); k_dflt (refine' fraction_spec ?cBzq ?cFzq ?cXzq ?cNzq ?cTzq ?ckzq ?cdzq ?cuzq ?p0zq ?p1zq ?p2zq ?_; (case cBzq => k_asm); (case cFzq => k_asm); (case cXzq => k_asm); (case cNzq => k_asm); (case cTzq => k_asm); (case ckzq => first | rfl | assumption); (case cdzq => k_extra "om"); (case cuzq => k_extra "om"); (case p0zq => l_fact); (case p1zq => l_fact); (case p2zq => l_fact); k_whole; intro _ _ _ _ _ _ _; (try k_sweep)))
  k_with "call ref" => (k_here; (with_reducible show wpAny _ _ (call (Value.ref 108) _) _ _ _); k_dflt (refine' fraction1_spec ?cBzq ?cFzq ?cXzq ?cNzq ?cTzq ?ckzq ?cdzq ?cuzq ?p0zq ?_; (case cBzq => k_asm); (case cFzq => k_asm); (case cXzq => k_asm); (case cNzq => k_asm); (case cTzq => k_asm); (case ckzq => first | rfl | assumption); (case cdzq => k_extra "om"); (case cuzq => k_extra "om"); (case p0zq => k_extra "om"); k_whole; intro _ _ _ _ _ _ _; (try k_sweep)))
  k_with "call ref" => (k_here; (with_reducible show wpAny _ _ (call (Value.ref 122) _) _ _ _); k_dflt (refine' minus_spec ?cBzq ?cFzq ?cXzq ?cNzq ?cTzq ?ckzq ?cdzq ?cuzq ?p0zq ?p1zq ?p2zq ?p3zq ?p4zq ?p5zq ?_; (case cBzq => k_asm); (case cFzq => k_asm); (case cXzq => k_asm); (case cNzq => k_asm); (case cTzq => k_asm); (case ckzq => first | rfl | assumption); (case cdzq => k_extra "om"); (case cuzq => k_extra "om"); (case p0zq => (first | exact FracAt.keeps (by with_reducible assumption) (Fr.keep (by k_asm)) | exact frac_news (by k_asm) (by k_mem) | exact zero_at (Frag.In.keeps (by with_reducible assumption) (Fr.keep (by with_reducible assumption))) | exact one_at (Frag.In.keeps (by with_reducible assumption) (Fr.keep (by with_reducible assumption))) | assumption)); (case p1zq => (first | exact FracAt.keeps (by with_reducible assumption) (Fr.keep (by k_asm)) | exact frac_news (by k_asm) (by k_mem) | exact zero_at (Frag.In.keeps (by with_reducible assumption) (Fr.keep (by with_reducible assumption))) | exact one_at (Frag.In.keeps (by with_reducible assumption) (Fr.keep (by with_reducible assumption))) | assumption)); (case p2zq => k_extra "om"); (case p3zq => k_extra "om"); (case p4zq => k_extra "om"); (case p5zq => k_extra "om"); k_whole; intro _ _ _ _ _ _ _; (try k_sweep)))
  k_with "call ref" => (k_here; (with_reducible show wpAny _ _ (call (Value.ref 157) _) _ _ _); k_dflt (refine' compare_spec ?cBzq ?cFzq ?cXzq ?cNzq ?cTzq ?ckzq ?cdzq ?cuzq ?p0zq ?p1zq ?p2zq ?p3zq ?p4zq ?p5zq ?_; (case cBzq => k_asm); (case cFzq => k_asm); (case cXzq => k_asm); (case cNzq => k_asm); (case cTzq => k_asm); (case ckzq => first | rfl | assumption); (case cdzq => k_extra "om"); (case cuzq => k_extra "om"); (case p0zq => (first | exact FracAt.keeps (by with_reducible assumption) (Fr.keep (by k_asm)) | exact frac_news (by k_asm) (by k_mem) | exact zero_at (Frag.In.keeps (by with_reducible assumption) (Fr.keep (by with_reducible assumption))) | exact one_at (Frag.In.keeps (by with_reducible assumption) (Fr.keep (by with_reducible assumption))) | assumption)); (case p1zq => (first | exact FracAt.keeps (by with_reducible assumption) (Fr.keep (by k_asm)) | exact frac_news (by k_asm) (by k_mem) | exact zero_at (Frag.In.keeps (by with_reducible assumption) (Fr.keep (by with_reducible assumption))) | exact one_at (Frag.In.keeps (by with_reducible assumption) (Fr.keep (by with_reducible assumption))) | assumption)); (case p2zq => k_extra "om"); (case p3zq => k_extra "om"); (case p4zq => k_extra "om"); (case p5zq => k_extra "om"); k_whole; intro _ _ _ _ _; (try k_sweep)))
  trivial

theorem part_of_spec {va : Value} {T b : Int} (zB : Below A₀ base outer h₀) (zF : Fr h₀ L s.heap m) (zX : (hd.heap_39 w.params).In h₀) (zN : News h₀ L s.heap news) (zT : Top p loose mean mg mb h₀) (zk : cs.kind = .function) (hd : dp + 5 < recursionLimit) (hu : un + 100 < cLine) (ha : FracAt s.heap va T b) (h1 : 0 < b ∧ b < 2 ^ 8) (h3 : -(2 ^ 20) < T ∧ T < 2 ^ 20)
    (ret : ∀ r u1 u2 s', Sm s s' → Fr h₀ L s'.heap m → News h₀ L s'.heap ((r, frO (T % b) b u1 u2) :: news) → Q (.ref r) s') :
    wpAny (model prog w) (ktrTop dp un gd cn cs L a ccd cl outer) (call (.ref 200) [va]) Q E s := by
  have q1 : -(2 ^ 20) ≤ T / b ∧ T / b ≤ 2 ^ 20 := by
    have := Int.natAbs_ediv_le_natAbs T b
    omega
  k_dflt (refine' enterM (mu := []) (binds := [(Str.ofString "t", va)]) zB zF zX zN (fun _ _ h => nomatch h) zT zk ?k6 ?k7 ?k8 ?k9 ?kB ?c2 ?c3 ?c4 ?c5 ?_; (case k6 => k_is); (case k7 => k_is); (case k8 => k_extra "om"); (case k9 => first | exact BindsTo.of_eq rfl | exact binds_K (Frag.In.keeps zX zF.keep) rfl (by k_is) rfl rfl rfl); (case c5 => decide); (case kB => exact locs rfl); (case c2 => exact rfl); (case c3 => exact rfl); (case c4 => exact rfl); k_whole; intro gg gL gs gS gG gF gN gB gX gT gA gE; (try dsimp only); (try k_fold))
  have ja := ha.gsub gG
  k_extra "S"
  (all_goals (try dsimp only)); (all_goals (try k_unfold)); (all_goals (try dsimp only))
  have e6 := fun u1 u2 => frO_of (part_eq (T := T) h1.1) u1 u2
  refine retM (by assumption) (by assumption) (fun kF kN => ?_)
  rw [e6] at kN
  exact ret _ _ _ _ (by k_extra "sm") kF (news_pick kN (by k_mem))

theorem rl_Spr_4 : True := by
  k_with "call ref" => (k_here; (with_reducible show wpAny _ _ (call (Value.ref 200) _) _ _ _); k_dflt (refine' part_of_spec ?cBzq ?cFzq ?cXzq ?cNzq ?cTzq ?ckzq ?cdzq ?cuzq ?p0zq ?p1zq ?p2zq ?_; (case cBzq => k_asm); (case cFzq => k_asm); (case cXzq => k_asm); (case cNzq => k_asm); (case cTzq => k_asm); (case ckzq => first | rfl | assumption); (case cdzq => k_extra "om"); (case cuzq => k_extra "om"); (case p0zq => (first | exact FracAt.keeps (by with_reducible assumption) (Fr.keep (by k_asm)) | exact frac_news (by k_asm) (by k_mem) | exact zero_at (Frag.In.keeps (by with_reducible assumption) (Fr.keep (by with_reducible assumption))) | exact one_at (Frag.In.keeps (by with_reducible assumption) (Fr.keep (by with_reducible assumption))) | assumption)); (case p1zq => k_extra "om"); (case p2zq => k_extra "om"); k_whole; intro _ _ _ _ _ _ _; (try k_sweep)))
  trivial

theorem reflected_spec {va : Value} {T b : Int} (zB : Below A₀ base outer h₀) (zF : Fr h₀ L s.heap m) (zX : (hd.heap_39 w.params).In h₀) (zN : News h₀ L s.heap news) (zT : Top p loose mean mg mb h₀) (zk : cs.kind = .function) (hd : dp + 6 < recursionLimit) (hu : un + 120 < cLine) (ha : FracAt s.heap va T b) (h1 : 0 < b ∧ b < 2 ^ 8) (h3 : -(2 ^ 20) < T ∧ T < 2 ^ 20)
    (ret : ∀ r u1 u2 s', Sm s s' → Fr h₀ L s'.heap m → News h₀ L s'.heap ((r, frO (spr .refl T b) b u1 u2) :: news) → Q (.ref r) s') :
    wpAny (model prog w) (ktrTop dp un gd cn cs L a ccd cl outer) (call (.ref 207) [va]) Q E s := by
  have q1 := Int.emod_nonneg T (b := b) (by k_extra "om")
  have q2 := Int.emod_lt_of_pos T (b := b) h1.1
  k_dflt (refine' enterM (mu := []) (binds := [(Str.ofString "t", va)]) zB zF zX zN (fun _ _ h => nomatch h) zT zk ?k6 ?k7 ?k8 ?k9 ?kB ?c2 ?c3 ?c4 ?c5 ?_; (case k6 => k_is); (case k7 => k_is); (case k8 => k_extra "om"); (case k9 => first | exact BindsTo.of_eq rfl | exact binds_K (Frag.In.keeps zX zF.keep) rfl (by k_is) rfl rfl rfl); (case c5 => decide); (case kB => exact locs rfl); (case c2 => exact rfl); (case c3 => exact rfl); (case c4 => exact rfl); k_whole; intro gg gL gs gS gG gF gN gB gX gT gA gE; (try dsimp only); (try k_fold))
  have ja := ha.gsub gG
  k_extra "S"
  (all_goals (try dsimp only)); (all_goals (try k_unfold)); (all_goals (try dsimp only))
  · rw [refl_even h1.1 (by assumption)] at ret
    exact retM (by assumption) (by assumption) (fun kF kN => ret _ _ _ _ (by k_extra "sm") kF (news_pick kN (by k_mem)))
  · rw [refl_odd h1.1 (by assumption)] at ret
    have e6 := fun u1 u2 => frO_of (one_minus_eq (c := T % b) h1.1) u1 u2
    refine retM (by assumption) (by assumption) (fun kF kN => ?_)
    rw [e6] at kN
    exact ret _ _ _ _ (by k_extra "sm") kF (news_pick kN (by k_mem))

theorem padded_spec {va : Value} {T b : Int} (zB : Below A₀ base outer h₀) (zF : Fr h₀ L s.heap m) (zX : (hd.heap_39 w.params).In h₀) (zN : News h₀ L s.heap news) (zT : Top p loose mean mg mb h₀) (zk : cs.kind = .function) (hd : dp + 4 < recursionLimit) (hu : un + 80 < cLine) (ha : FracAt s.heap va T b) (h1 : 0 < b ∧ b < 2 ^ 8) (h3 : -(2 ^ 20) < T ∧ T < 2 ^ 20)
    (ret : ∀ v s', Sm s s' → Fr h₀ L s'.heap m → News h₀ L s'.heap news → ((v = va ∧ 0 ≤ T ∧ T ≤ b) ∨ (v = .ref 92 ∧ T < 0) ∨ (v = .ref 93 ∧ b < T)) → FracAt s'.heap v (spr .pad T b) b → Q v s') :
    wpAny (model prog w) (ktrTop dp un gd cn cs L a ccd cl outer) (call (.ref 214) [va]) Q E s := by
  k_dflt (refine' enterM (mu := []) (binds := [(Str.ofString "t", va)]) zB zF zX zN (fun _ _ h => nomatch h) zT zk ?k6 ?k7 ?k8 ?k9 ?kB ?c2 ?c3 ?c4 ?c5 ?_; (case k6 => k_is); (case k7 => k_is); (case k8 => k_extra "om"); (case k9 => first | exact BindsTo.of_eq rfl | exact binds_K (Frag.In.keeps zX zF.keep) rfl (by k_is) rfl rfl rfl); (case c5 => decide); (case kB => exact locs rfl); (case c2 => exact rfl); (case c3 => exact rfl); (case c4 => exact rfl); k_whole; intro gg gL gs gS gG gF gN gB gX gT gA gE; (try dsimp only); (try k_fold))
  have ja := ha.gsub gG
  k_extra "S"
  (all_goals (try dsimp only)); (all_goals (try k_unfold)); (all_goals (try dsimp only))
  · have hT : T < 0 := by have := sgn_neg.mp (by assumption); omega
    refine retM (by assumption) (by assumption) (fun kF kN => ret _ _ (by k_extra "sm") kF (news_drop kN) (.inr (.inl ⟨rfl, hT⟩)) ?_)
    refine (zero_at (zX.keeps kF.keep)).eq (fr_eq (by k_extra "om") h1.1 ?_)
    simp only [spr]
    rw [show max 0 (min T b) = 0 by k_extra "om"]
    omega
  · have hT : b < T := by have := sgn_pos.mp (by assumption); omega
    refine retM (by assumption) (by assumption) (fun kF kN => ret _ _ (by k_extra "sm") kF (news_drop kN) (.inr (.inr ⟨rfl, hT⟩)) ?_)
    refine (one_at (zX.keeps kF.keep)).eq (fr_eq (by k_extra "om") h1.1 ?_)
    simp only [spr]
    rw [show max 0 (min T b) = b by k_extra "om"]
    omega
  · have hT1 : ¬ T < 0 := fun h => by have := sgn_neg.mpr (show T * 1 - 0 * b < 0 by k_extra "om"); contradiction
    have hT2 : ¬ b < T := fun h => by have := sgn_pos.mpr (show 0 < T * 1 - 1 * b by k_extra "om"); contradiction
    refine retM (by assumption) (by assumption) (fun kF kN => ret _ _ (by k_extra "sm") kF (news_drop kN) (.inl ⟨rfl, by k_extra "om", by k_extra "om"⟩) ?_)
    simp only [spr]
    rw [show max 0 (min T b) = T by k_extra "om"]
    exact ja.keeps (Fr.keep (by assumption))

theorem rl_Spr_5 : True := by
  k_with "call ref" => (k_here; (with_reducible show wpAny _ _ (call (Value.ref 214) _) _ _ _); k_dflt (refine' padded_spec ?cBzq ?cFzq ?cXzq ?cNzq ?cTzq ?ckzq ?cdzq ?cuzq ?p0zq ?p1zq ?p2zq ?_; (case cBzq => k_asm); (case cFzq => k_asm); (case cXzq => k_asm); (case cNzq => k_asm); (case cTzq => k_asm); (case ckzq => first | rfl | assumption); (case cdzq => k_extra "om"); (case cuzq => k_extra "om"); (case p0zq => (first | exact FracAt.keeps (by with_reducible assumption) (Fr.keep (by k_asm)) | exact frac_news (by k_asm) (by k_mem) | exact zero_at (Frag.In.keeps (by with_reducible assumption) (Fr.keep (by with_reducible assumption))) | exact one_at (Frag.In.keeps (by with_reducible assumption) (Fr.keep (by with_reducible assumption))) | assumption)); (case p1zq => k_extra "om"); (case p2zq => k_extra "om"); k_whole; intro _ _ _ _ _ _ _; (try k_sweep)))
  k_with "call ref" => (k_here; (with_reducible show wpAny _ _ (call (Value.ref 207) _) _ _ _); k_dflt (refine' reflected_spec ?cBzq ?cFzq ?cXzq ?cNzq ?cTzq ?ckzq ?cdzq ?cuzq ?p0zq ?p1zq ?p2zq ?_; (case cBzq => k_asm); (case cFzq => k_asm); (case cXzq => k_asm); (case cNzq => k_asm); (case cTzq => k_asm); (case ckzq => first | rfl | assumption); (case cdzq => k_extra "om"); (case cuzq => k_extra "om"); (case p0zq => (first | exact FracAt.keeps (by with_reducible assumption) (Fr.keep (by k_asm)) | exact frac_news (by k_asm) (by k_mem) | exact zero_at (Frag.In.keeps (by with_reducible assumption) (Fr.keep (by with_reducible assumption))) | exact one_at (Frag.In.keeps (by with_reducible assumption) (Fr.keep (by with_reducible assumption))) | assumption)); (case p1zq => k_extra "om"); (case p2zq => k_extra "om"); k_whole; intro _ _ _ _ _ _ _; (try k_sweep)))
  trivial

theorem spread_spec {k : Kd} {va : Value} {x : Str} {t : Tok} {T b : Int} (zB : Below A₀ base outer h₀) (zF : Fr h₀ L s.heap m) (zX : (hd.heap_39 w.params).In h₀) (zN : News h₀ L s.heap news) (zT : Top p loose mean mg mb h₀) (zk : cs.kind = .function) (hd : dp + 7 < recursionLimit) (hu : un + 140 < cLine) (hx : k.str = x) (ha : FracAt s.heap va T b) (h1 : 0 < b ∧ b < 2 ^ 8) (h3 : -(2 ^ 20) < T ∧ T < 2 ^ 20)
    (ret : ∀ v s' own, Sm s s' → Fr h₀ L s'.heap m → News h₀ L s'.heap (own ++ news) → FracAt s'.heap v (spr k T b) b → Q v s') :
    wpAny (model prog w) (ktrTop dp un gd cn cs L a ccd cl outer) (call (.ref 221) [va, .str x t]) Q E s := by
  subst hx
  cases k
  · show wpAny _ _ (call _ [_, .str (Str.ofString "pad") t]) _ _ _
    k_dflt (refine' enterM (mu := []) (binds := [(Str.ofString "t", va), (Str.ofString "kind", .str (Str.ofString "pad") t)]) zB zF zX zN (fun _ _ h => nomatch h) zT zk ?k6 ?k7 ?k8 ?k9 ?kB ?c2 ?c3 ?c4 ?c5 ?_; (case k6 => k_is); (case k7 => k_is); (case k8 => k_extra "om"); (case k9 => first | exact BindsTo.of_eq rfl | exact binds_K (Frag.In.keeps zX zF.keep) rfl (by k_is) rfl rfl rfl); (case c5 => decide); (case kB => exact locs rfl); (case c2 => exact rfl); (case c3 => exact rfl); (case c4 => exact rfl); k_whole; intro gg gL gs gS gG gF gN gB gX gT gA gE; (try dsimp only); (try k_fold))
    have ja := ha.gsub gG
    k_extra "S"
    (all_goals (try dsimp only)); (all_goals (try k_unfold)); (all_goals (try dsimp only))
    exact retM (by assumption) (by assumption) (fun kF kN => ret _ _ _ (by k_extra "sm") kF kN (by assumption))
  · show wpAny _ _ (call _ [_, .str (Str.ofString "repeat") t]) _ _ _
    k_dflt (refine' enterM (mu := []) (binds := [(Str.ofString "t", va), (Str.ofString "kind", .str (Str.ofString "repeat") t)]) zB zF zX zN (fun _ _ h => nomatch h) zT zk ?k6 ?k7 ?k8 ?k9 ?kB ?c2 ?c3 ?c4 ?c5 ?_; (case k6 => k_is); (case k7 => k_is); (case k8 => k_extra "om"); (case k9 => first | exact BindsTo.of_eq rfl | exact binds_K (Frag.In.keeps zX zF.keep) rfl (by k_is) rfl rfl rfl); (case c5 => decide); (case kB => exact locs rfl); (case c2 => exact rfl); (case c3 => exact rfl); (case c4 => exact rfl); k_whole; intro gg gL gs gS gG gF gN gB gX gT gA gE; (try dsimp only); (try k_fold))
    have ja := ha.gsub gG
    k_extra "S"
    (all_goals (try dsimp only)); (all_goals (try k_unfold)); (all_goals (try dsimp only))
    exact retM (by assumption) (by assumption) (fun kF kN => ret _ _ _ (by k_extra "sm") kF kN ⟨_, _, _, rfl, News.isTup kN (by k_mem)⟩)
  · show wpAny _ _ (call _ [_, .str (Str.ofString "reflect") t]) _ _ _
    k_dflt (refine' enterM (mu := []) (binds := [(Str.ofString "t", va), (Str.ofString "kind", .str (Str.ofString "reflect") t)]) zB zF zX zN (fun _ _ h => nomatch h) zT zk ?k6 ?k7 ?k8 ?k9 ?kB ?c2 ?c3 ?c4 ?c5 ?_; (case k6 => k_is); (case k7 => k_is); (case k8 => k_extra "om"); (case k9 => first | exact BindsTo.of_eq rfl | exact binds_K (Frag.In.keeps zX zF.keep) rfl (by k_is) rfl rfl rfl); (case c5 => decide); (case kB => exact locs rfl); (case c2 => exact rfl); (case c3 => exact rfl); (case c4 => exact rfl); k_whole; intro gg gL gs gS gG gF gN gB gX gT gA gE; (try dsimp only); (try k_fold))
    have ja := ha.gsub gG
    k_extra "S"
    (all_goals (try dsimp only)); (all_goals (try k_unfold)); (all_goals (try dsimp only))
    exact retM (by assumption) (by assumption) (fun kF kN => ret _ _ _ (by k_extra "sm") kF kN ⟨_, _, _, rfl, News.isTup kN (by k_mem)⟩)

end
end
end Mine

namespace Mine
section

/-- a pair of fractions -/
inductive PtAt (h : Heap) (v : Value) (X1 X2 Y1 Y2 : Int) : Prop
  | mk (a : _) (x : _) (y : _) (q1 : v = .ref a) (q2 : IsTup h a #[x, y]) (q3 : FracAt h x X1 X2) (q4 : FracAt h y Y1 Y2) : PtAt h v X1 X2 Y1 Y2
theorem pt_news {h₀ h : Heap} {L a x y : Addr} {news : List (Addr × Obj)} {A B C D : Int} {t1 t2 t3 t4 : Tok} {n : Nat} (N : News h₀ L h news) (hm : (a, ({ cls := .type "tuple", data := .seq #[.ref x, .ref y] n } : Obj)) ∈ news) (hx : (x, frO A B t1 t2) ∈ news) (hy : (y, frO C D t3 t4) ∈ news) : PtAt h (.ref a) A B C D :=
  ⟨_, _, _, rfl, News.isTup N hm, frac_news N hx, frac_news N hy⟩
theorem PtAt.keeps {h h' : Heap} {v : Value} {A B C D : Int} (x : PtAt h v A B C D) (hk : ∀ b o, h.get? b = some o → h'.get? b = some o) : PtAt h' v A B C D :=
  let ⟨a, x, y, e, i, f, g⟩ := x; ⟨a, x, y, e, i.keeps hk, f.keeps hk, g.keeps hk⟩
theorem PtAt.gsub {h g : Heap} {v : Value} {A B C D : Int} (x : PtAt h v A B C D) (G : GSub h g ([] : List Addr)) : PtAt g v A B C D := x.keeps fun b o e => G b o e (fun h => nomatch h)
/-- a pair of fractions, newly made -/
inductive PtIn (own : List (Addr × Obj)) (v : Value) (X1 X2 Y1 Y2 : Int) : Prop
  | mk (a : _) (x : _) (y : _) (t1 : _) (t2 : _) (t3 : _) (t4 : _) (q1 : v = .ref a) (q2 : own = [(a, tupO [.ref x, .ref y]), (x, frO X1 X2 t1 t2), (y, frO Y1 Y2 t3 t4)]) : PtIn own v X1 X2 Y1 Y2
theorem PtIn.at {own rest : List (Addr × Obj)} {h₀ h : Heap} {L : Addr} {v : Value} {A B C D : Int} (x : PtIn own v A B C D) (N : News h₀ L h rest) (hs : ∀ q ∈ own, q ∈ rest) : PtAt h v A B C D := by
  obtain ⟨a, x, y, t1, t2, t3, t4, rfl, rfl⟩ := x
  exact ⟨a, _, _, rfl, News.isTup N (hs _ (by k_mem)), ⟨x, _, _, rfl, News.isTup N (hs _ (by k_mem))⟩, ⟨y, _, _, rfl, News.isTup N (hs _ (by k_mem))⟩⟩
section
variable {prog : Program} {w : World} {p : Program} {loose : List Str} {mean : ExcName → Option Value} {mg mb : Str → Option Value}
  {dp un : Nat} {gd : Option (List Code)} {cn : Str} {cs : Scope} {a : Addr} {ccd : Value} {cl : List (Str × Addr)} {outer : List Env} {A₀ : Around} {base h₀ : Heap} {L : Addr}
  {m : Str → Option Value} {news : List (Addr × Obj)} {s : Shared} {Q E : Value → Shared → Prop}
theorem news_pick3 {h : Heap} {own news : List (Addr × Obj)} {q r s : Addr × Obj} (kN : News h₀ L h (own ++ news)) (hq : q ∈ own) (hr : r ∈ own) (hs : s ∈ own) : News h₀ L h ([q, r, s] ++ news) := fun x hx => by
  rcases List.mem_append.mp hx with hx | hx
  · rcases List.mem_cons.mp hx with rfl | hx
    · exact kN _ (List.mem_append_left _ hq)
    · rcases List.mem_cons.mp hx with rfl | hx
      · exact kN _ (List.mem_append_left _ hr)
      · rw [List.mem_singleton.mp hx]; exact kN _ (List.mem_append_left _ hs)
  · exact kN _ (List.mem_append_right _ hx)

theorem rl_Geo_2 : True := by
  k_with "call ref" => (k_here; (with_reducible show wpAny _ _ (call (Value.ref 115) _) _ _ _); k_dflt (refine' plus_spec ?cBzq ?cFzq ?cXzq ?cNzq ?cTzq ?ckzq ?cdzq ?cuzq ?p0zq ?p1zq ?p2zq ?p3zq ?p4zq ?p5zq ?_; (case cBzq => k_asm); (case cFzq => k_asm); (case cXzq => k_asm); (case cNzq => k_asm); (case cTzq => k_asm); (case ckzq => first | rfl | assumption); (case cdzq => k_extra "om"); (case cuzq => k_extra "om"); (case p0zq => (first | exact FracAt.keeps (by with_reducible assumption) (Fr.keep (by k_asm)) | exact frac_news (by k_asm) (by k_mem) | exact zero_at (Frag.In.keeps (by with_reducible assumption) (Fr.keep (by with_reducible assumption))) | exact one_at (Frag.In.keeps (by with_reducible assumption) (Fr.keep (by with_reducible assumption))) | assumption)); (case p1zq => (first | exact FracAt.keeps (by with_reducible assumption) (Fr.keep (by k_asm)) | exact frac_news (by k_asm) (by k_mem) | exact zero_at (Frag.In.keeps (by with_reducible assumption) (Fr.keep (by with_reducible assumption))) | exact one_at (Frag.In.keeps (by with_reducible assumption) (Fr.keep (by with_reducible assumption))) | assumption)); (case p2zq => k_extra "om"); (case p3zq => k_extra "om"); (case p4zq => k_extra "om"); (case p5zq => k_extra "om"); k_whole; intro _ _ _ _ _ _ _; (try k_sweep)))
  k_with "call ref" => (k_here; (with_reducible show wpAny _ _ (call (Value.ref 129) _) _ _ _); k_dflt (refine' times_spec ?cBzq ?cFzq ?cXzq ?cNzq ?cTzq ?ckzq ?cdzq ?cuzq ?p0zq ?p1zq ?p2zq ?p3zq ?p4zq ?p5zq ?_; (case cBzq => k_asm); (case cFzq => k_asm); (case cXzq => k_asm); (case cNzq => k_asm); (case cTzq => k_asm); (case ckzq => first | rfl | assumption); (case cdzq => k_extra "om"); (case cuzq => k_extra "om"); (case p0zq => (first | exact FracAt.keeps (by with_reducible assumption) (Fr.keep (by k_asm)) | exact frac_news (by k_asm) (by k_mem) | exact zero_at (Frag.In.keeps (by with_reducible assumption) (Fr.keep (by with_reducible assumption))) | exact one_at (Frag.In.keeps (by with_reducible assumption) (Fr.keep (by with_reducible assumption))) | assumption)); (case p1zq => (first | exact FracAt.keeps (by with_reducible assumption) (Fr.keep (by k_asm)) | exact frac_news (by k_asm) (by k_mem) | exact zero_at (Frag.In.keeps (by with_reducible assumption) (Fr.keep (by with_reducible assumption))) | exact one_at (Frag.In.keeps (by with_reducible assumption) (Fr.keep (by with_reducible assumption))) | assumption)); (case p2zq => k_extra "om"); (case p3zq => k_extra "om"); (case p4zq => k_extra "om"); (case p5zq => k_extra "om"); k_whole; intro _ _ _ _ _ _ _; (try k_sweep)))
  k_with "call ref" => (k_here; (with_reducible show wpAny _ _ (call (Value.ref 108) _) _ _ _); k_dflt (refine' fraction_spec ?cBzq ?cFzq ?cXzq ?cNzq ?cTzq ?ckzq ?cdzq ?cuzq ?p0zq ?p1zq ?p2zq ?_; (case cBzq => k_asm); (case cFzq => k_asm); (case cXzq => k_asm); (case cNzq => k_asm); (case cTzq => k_asm); (case ckzq => first | rfl | assumption); (case cdzq => k_extra "om"); (case cuzq => k_extra "om"); (case p0zq => l_fact); (case p1zq => l_fact); (case p2zq => l_fact); k_whole; intro _ _ _ _ _ _ _; (try k_sweep)))
  trivial

/-- two points upon half places -/
theorem less_spec {va vb : Value} {A B' C D k l : Int} (zB : Below A₀ base outer h₀) (zF : Fr h₀ L s.heap m) (zX : (hd.heap_39 w.params).In h₀) (zN : News h₀ L s.heap news) (zT : Top p loose mean mg mb h₀) (zk : cs.kind = .function) (hd : dp + 5 < recursionLimit) (hu : un + 100 < cLine) (ha : PtAt s.heap va A 2 B' 2) (hb : PtAt s.heap vb C 2 D 2) (hk : C - A = 2 * k) (hl : D - B' = 2 * l)
    (h1 : -(2 ^ 20) < A ∧ A < 2 ^ 20) (h2 : -(2 ^ 20) < B' ∧ B' < 2 ^ 20) (h3 : -(2 ^ 20) < C ∧ C < 2 ^ 20) (h4 : -(2 ^ 20) < D ∧ D < 2 ^ 20)
    (ret : ∀ v own s', PtIn own v k 1 l 1 → Sm s s' → Fr h₀ L s'.heap m → News h₀ L s'.heap (own ++ news) → Q v s') :
    wpAny (model prog w) (ktrTop dp un gd cn cs L a ccd cl outer) (call (.ref 304) [va, vb]) Q E s := by
  obtain ⟨a1, x1, y1, rfl, i1, j1, k1⟩ := ha
  obtain ⟨a2, x2, y2, rfl, i2, j2, k2⟩ := hb
  k_dflt (refine' enterM (mu := []) (binds := [(Str.ofString "p", .ref a1), (Str.ofString "q", .ref a2)]) zB zF zX zN (fun _ _ h => nomatch h) zT zk ?k6 ?k7 ?k8 ?k9 ?kB ?c2 ?c3 ?c4 ?c5 ?_; (case k6 => k_is); (case k7 => k_is); (case k8 => k_extra "om"); (case k9 => first | exact BindsTo.of_eq rfl | exact binds_K (Frag.In.keeps zX zF.keep) rfl (by k_is) rfl rfl rfl); (case c5 => decide); (case kB => exact locs rfl); (case c2 => exact rfl); (case c3 => exact rfl); (case c4 => exact rfl); k_whole; intro gg gL gs gS gG gF gN gB gX gT gA gE; (try dsimp only); (try k_fold))
  have i1 := tupG i1 gG
  have i2 := tupG i2 gG
  have j1 := j1.gsub gG
  have j2 := j2.gsub gG
  have k1 := k1.gsub gG
  have k2 := k2.gsub gG
  k_extra "S"
  (all_goals (try dsimp only)); (all_goals (try k_unfold)); (all_goals (try dsimp only))
  have e6 := fun u1 u2 => frO_of (less_eq hk) u1 u2
  have e7 := fun u1 u2 => frO_of (less_eq hl) u1 u2
  refine retM (by assumption) (by assumption) (fun kF kN => ?_)
  rw [e6, e7] at kN
  exact ret _ _ _ ⟨_, _, _, _, _, _, _, rfl, rfl⟩ (by k_extra "sm") kF (news_pick3 kN (by k_mem) (by k_mem) (by k_mem))

theorem prod_eq {x y z u : Int} : fr1 (x * z * (1 * 1) + y * u * (1 * 1)) (1 * 1 * (1 * 1)) = fr1 (x * z + y * u) 1 ∧ fr2 (x * z * (1 * 1) + y * u * (1 * 1)) (1 * 1 * (1 * 1)) = fr2 (x * z + y * u) 1 := by
  simp only [Int.mul_one]; exact ⟨trivial, trivial⟩
theorem product_spec {va vb : Value} {x y z u : Int} (zB : Below A₀ base outer h₀) (zF : Fr h₀ L s.heap m) (zX : (hd.heap_39 w.params).In h₀) (zN : News h₀ L s.heap news) (zT : Top p loose mean mg mb h₀) (zk : cs.kind = .function) (hd : dp + 5 < recursionLimit) (hu : un + 100 < cLine) (ha : PtAt s.heap va x 1 y 1) (hb : PtAt s.heap vb z 1 u 1)
    (h1 : -(2 ^ 12) < x ∧ x < 2 ^ 12) (h2 : -(2 ^ 12) < y ∧ y < 2 ^ 12) (h3 : -(2 ^ 12) < z ∧ z < 2 ^ 12) (h4 : -(2 ^ 12) < u ∧ u < 2 ^ 12)
    (ret : ∀ r u1 u2 s', Sm s s' → Fr h₀ L s'.heap m → News h₀ L s'.heap ((r, frO (x * z + y * u) 1 u1 u2) :: news) → Q (.ref r) s') :
    wpAny (model prog w) (ktrTop dp un gd cn cs L a ccd cl outer) (call (.ref 311) [va, vb]) Q E s := by
  obtain ⟨a1, x1, y1, rfl, i1, j1, k1⟩ := ha
  obtain ⟨a2, x2, y2, rfl, i2, j2, k2⟩ := hb
  have q1 := mul_bd h1 h3
  have q2 := mul_bd h2 h4
  k_dflt (refine' enterM (mu := []) (binds := [(Str.ofString "v", .ref a1), (Str.ofString "w", .ref a2)]) zB zF zX zN (fun _ _ h => nomatch h) zT zk ?k6 ?k7 ?k8 ?k9 ?kB ?c2 ?c3 ?c4 ?c5 ?_; (case k6 => k_is); (case k7 => k_is); (case k8 => k_extra "om"); (case k9 => first | exact BindsTo.of_eq rfl | exact binds_K (Frag.In.keeps zX zF.keep) rfl (by k_is) rfl rfl rfl); (case c5 => decide); (case kB => exact locs rfl); (case c2 => exact rfl); (case c3 => exact rfl); (case c4 => exact rfl); k_whole; intro gg gL gs gS gG gF gN gB gX gT gA gE; (try dsimp only); (try k_fold))
  have i1 := tupG i1 gG
  have i2 := tupG i2 gG
  have j1 := j1.gsub gG
  have j2 := j2.gsub gG
  have k1 := k1.gsub gG
  have k2 := k2.gsub gG
  k_extra "S"
  (all_goals (try dsimp only)); (all_goals (try k_unfold)); (all_goals (try dsimp only))
  have e6 := fun u1 u2 => frO_of (prod_eq (x := x) (y := y) (z := z) (u := u)) u1 u2
  refine retM (by assumption) (by assumption) (fun kF kN => ?_)
  rw [e6] at kN
  exact ret _ _ _ _ (by k_extra "sm") kF (news_pick kN (by k_mem))

theorem half (x : Int) : 2 * x + 1 = fr1 (2 * x + 1) 2 ∧ 2 = fr2 (2 * x + 1) 2 := by
  have h : Int.gcd (2 * x + 1) 2 = 1 := by
    have h1 := Int.gcd_dvd_right (2 * x + 1) 2
    have h2 := Int.gcd_dvd_left (2 * x + 1) 2
    have h3 : (Int.gcd (2 * x + 1) 2 : Int) ≤ 2 := Int.le_of_dvd (by k_extra "om") h1
    have h4 := gpos (A := 2 * x + 1) (B := 2) (by k_extra "om")
    rcases (show (Int.gcd (2 * x + 1) 2 : Int) = 1 ∨ (Int.gcd (2 * x + 1) 2 : Int) = 2 by k_extra "om") with h5 | h5
    · omega
    · rw [h5] at h2; omega
  unfold fr1 fr2
  rw [h]
  omega

theorem middle_of_spec {x y : Int} {t1 t2 : Tok} (zB : Below A₀ base outer h₀) (zF : Fr h₀ L s.heap m) (zX : (hd.heap_39 w.params).In h₀) (zN : News h₀ L s.heap news) (zT : Top p loose mean mg mb h₀) (zk : cs.kind = .function) (hd : dp + 5 < recursionLimit) (hu : un + 100 < cLine) (h1 : -(2 ^ 12) < x ∧ x < 2 ^ 12) (h2 : -(2 ^ 12) < y ∧ y < 2 ^ 12)
    (ret : ∀ v own s', PtIn own v (2 * x + 1) 2 (2 * y + 1) 2 → Sm s s' → Fr h₀ L s'.heap m → News h₀ L s'.heap (own ++ news) → Q v s') :
    wpAny (model prog w) (ktrTop dp un gd cn cs L a ccd cl outer) (call (.ref 185) [.int x t1, .int y t2]) Q E s := by
  k_dflt (refine' enterM (mu := []) (binds := [(Str.ofString "x", .int x t1), (Str.ofString "y", .int y t2)]) zB zF zX zN (fun _ _ h => nomatch h) zT zk ?k6 ?k7 ?k8 ?k9 ?kB ?c2 ?c3 ?c4 ?c5 ?_; (case k6 => k_is); (case k7 => k_is); (case k8 => k_extra "om"); (case k9 => first | exact BindsTo.of_eq rfl | exact binds_K (Frag.In.keeps zX zF.keep) rfl (by k_is) rfl rfl rfl); (case c5 => decide); (case kB => exact locs rfl); (case c2 => exact rfl); (case c3 => exact rfl); (case c4 => exact rfl); k_whole; intro gg gL gs gS gG gF gN gB gX gT gA gE; (try dsimp only); (try k_fold))
  k_extra "S"
  (all_goals (try dsimp only)); (all_goals (try k_unfold)); (all_goals (try dsimp only))
  have e6 := half x
  have e7 := half y
  have e8 : ∀ u1 u2, ({ cls := .type "tuple", data := .seq #[.int (2 * x + 1) u1, .int 2 u2] } : Obj) = frO (2 * x + 1) 2 u1 u2 := fun u1 u2 => by unfold frO; rw [← e6.1, ← e6.2]
  have e9 : ∀ u1 u2, ({ cls := .type "tuple", data := .seq #[.int (2 * y + 1) u1, .int 2 u2] } : Obj) = frO (2 * y + 1) 2 u1 u2 := fun u1 u2 => by unfold frO; rw [← e7.1, ← e7.2]
  refine retM (by assumption) (by assumption) (fun kF kN => ?_)
  rw [e8] at kN
  (try rw [e9] at kN)
  exact ret _ _ _ ⟨_, _, _, _, _, _, _, rfl, rfl⟩ (by k_extra "sm") kF (news_pick3 kN (by k_mem) (by k_mem) (by k_mem))

theorem law_middle_spec {x y : Int} {t1 t2 : Tok} (zB : Below A₀ base outer h₀) (zF : Fr h₀ L s.heap m) (zX : (hd.heap_39 w.params).In h₀) (zN : News h₀ L s.heap news) (zT : Top p loose mean mg mb h₀) (zk : cs.kind = .function) (hd : dp + 5 < recursionLimit) (hu : un + 100 < cLine) (h1 : -(2 ^ 12) < x ∧ x < 2 ^ 12) (h2 : -(2 ^ 12) < y ∧ y < 2 ^ 12)
    (ret : ∀ v own s', PtIn own v (2 * x + 1) 2 (2 * y + 1) 2 → Sm s s' → Fr h₀ L s'.heap m → News h₀ L s'.heap (own ++ news) → Q v s') :
    wpAny (model prog w) (ktrTop dp un gd cn cs L a ccd cl outer) (call (.ref 523) [.int x t1, .int y t2]) Q E s := by
  k_dflt (refine' enterM (mu := []) (binds := [(Str.ofString "x", .int x t1), (Str.ofString "y", .int y t2)]) zB zF zX zN (fun _ _ h => nomatch h) zT zk ?k6 ?k7 ?k8 ?k9 ?kB ?c2 ?c3 ?c4 ?c5 ?_; (case k6 => k_is); (case k7 => k_is); (case k8 => k_extra "om"); (case k9 => first | exact BindsTo.of_eq rfl | exact binds_K (Frag.In.keeps zX zF.keep) rfl (by k_is) rfl rfl rfl); (case c5 => decide); (case kB => exact locs rfl); (case c2 => exact rfl); (case c3 => exact rfl); (case c4 => exact rfl); k_whole; intro gg gL gs gS gG gF gN gB gX gT gA gE; (try dsimp only); (try k_fold))
  k_extra "S"
  (all_goals (try dsimp only)); (all_goals (try k_unfold)); (all_goals (try dsimp only))
  refine retM (by assumption) (by assumption) (fun kF kN => ?_)
  exact ret _ _ _ ⟨_, _, _, _, _, _, _, rfl, rfl⟩ (by k_extra "sm") kF (news_pick3 kN (by k_mem) (by k_mem) (by k_mem))

theorem rl_Geo_3 : True := by
  k_with "call ref" => (k_here; (with_reducible show wpAny _ _ (call (Value.ref 178) _) _ _ _); k_dflt (refine' root_floor_spec ?cBzq ?cFzq ?cXzq ?cNzq ?cTzq ?ckzq ?cdzq ?cuzq ?p0zq ?p1zq ?_; (case cBzq => k_asm); (case cFzq => k_asm); (case cXzq => k_asm); (case cNzq => k_asm); (case cTzq => k_asm); (case ckzq => first | rfl | assumption); (case cdzq => k_extra "om"); (case cuzq => k_extra "om"); (case p0zq => assumption); (case p1zq => k_extra "om"); k_whole; intro _ _ _ _ _; (try k_sweep)))
  trivial

theorem root_of_spec {va : Value} {k : Int} {tb : Tok} (zB : Below A₀ base outer h₀) (zF : Fr h₀ L s.heap m) (zX : (hd.heap_39 w.params).In h₀) (zN : News h₀ L s.heap news) (zT : Top p loose mean mg mb h₀) (zk : cs.kind = .function) (hd : dp + 5 < recursionLimit) (hu : un + 100 < cLine) (ha : FracAt s.heap va (k * k) 1) (h1 : 0 ≤ k ∧ k < 2 ^ 14)
    (ret : ∀ r u1 u2 s', Sm s s' → Fr h₀ L s'.heap m → News h₀ L s'.heap ((r, frO k 1 u1 u2) :: news) → Q (.ref r) s') :
    wpAny (model prog w) (ktrTop dp un gd cn cs L a ccd cl outer) (call (.ref 353) [va, .int 256 tb]) Q E s := by
  have q1 := mul_bd (x := k) (y := k) (a := 2 ^ 14) (b := 2 ^ 14) (by k_extra "om") (by k_extra "om")
  obtain ⟨a1, t1, t2, x1, y1, rfl, ia, e1, e2, p1, p2⟩ := ha.open (by k_extra "om") (by k_extra "om")
  have e3 := fr_one (k * k)
  rw [← e1, ← e2] at e3
  obtain ⟨e3, e4⟩ := e3
  clear e1 e2
  subst e4
  have hr : x1 * 1 * 256 * 256 = (k * 256) * (k * 256) := by rw [e3]; grind
  k_dflt (refine' enterM (mu := []) (binds := [(Str.ofString "a", .ref a1), (Str.ofString "bottom", .int 256 tb)]) zB zF zX zN (fun _ _ h => nomatch h) zT zk ?k6 ?k7 ?k8 ?k9 ?kB ?c2 ?c3 ?c4 ?c5 ?_; (case k6 => k_is); (case k7 => k_is); (case k8 => k_extra "om"); (case k9 => first | exact BindsTo.of_eq rfl | exact binds_K (Frag.In.keeps zX zF.keep) rfl (by k_is) rfl rfl rfl); (case c5 => decide); (case kB => exact locs rfl); (case c2 => exact rfl); (case c3 => exact rfl); (case c4 => exact rfl); k_whole; intro gg gL gs gS gG gF gN gB gX gT gA gE; (try dsimp only); (try k_fold))
  have i1 := tupG ia gG
  k_extra "S"
  (all_goals (try dsimp only)); (all_goals (try k_unfold)); (all_goals (try dsimp only))
  have e6 := fun u1 u2 => frO_of (fr_eq (A := k * 256) (B := 1 * 256) (C := k) (D := 1) (by k_extra "om") (by k_extra "om") (by k_extra "om")) u1 u2
  refine retM (by assumption) (by assumption) (fun kF kN => ?_)
  rw [e6] at kN
  exact ret _ _ _ _ (by k_extra "sm") kF (news_pick kN (by k_mem))
end
end
end Mine

namespace Mine
section

theorem inst_keeps {h h' : Heap} {x C : Addr} {ox : Obj} {od : Option Obj} (I : InstAt h x ox C od) (hk : ∀ b o, h.get? b = some o → h'.get? b = some o) : InstAt h' x ox C od := by
  obtain ⟨a1, a2, a3, a4⟩ := I
  refine ⟨hk _ _ a1, a2, a3, ?_⟩
  split at a4
  · exact hk _ _ a4
  · exact a4
  · exact a4
theorem rl_Mat_2 : True := by
  k_with "k_inst" => exact inst_keeps (by assumption) (Fr.keep (by k_asm))
  k_with "k_get" => assumption
  trivial

def Holds (w : World) (own : List (Addr × Obj)) (P : Heap → Prop) : Prop := ∀ h, (hd.heap_39 w.params).In h → (∀ q ∈ own, h.get? q.1 = some q.2) → P h
theorem Holds.at {w : World} {own l : List (Addr × Obj)} {P : Heap → Prop} {h₀ h : Heap} {L : Addr} (H : Holds w own P) (X : (hd.heap_39 w.params).In h) (N : News h₀ L h l) (hs : ∀ q ∈ own, q ∈ l) : P h := H h X fun q hq => (N q (hs q hq)).1
def FsIn (es : List DictEntry) : List (Str × Value) → Prop
  | [] => True
  | (a, v) :: r => getL a es = some (some v) ∧ FsIn es r
def NoIn (es : List DictEntry) : List Str → Prop
  | [] => True
  | a :: r => getL a es = some none ∧ NoIn es r
/-- an object whose own dict says these fields and does not say these names -/
inductive ObjAt (h : Heap) (v : Value) (C : Addr) (fs : List (Str × Value)) (no : List Str) : Prop
  | mk (x : _) (dx : _) (es : _) (n : _) (q1 : v = .ref x) (q2 : InstAt h x (instObj C dx) C (some (dictOf es n))) (q3 : FsIn es fs) (q4 : NoIn es no) : ObjAt h v C fs no
theorem ObjAt.keeps {h h' : Heap} {v : Value} {C : Addr} {fs : List (Str × Value)} {no : List Str} (x : ObjAt h v C fs no) (hk : ∀ b o, h.get? b = some o → h'.get? b = some o) : ObjAt h' v C fs no := by
  obtain ⟨x, dx, es, n, e, I, a, b⟩ := x
  exact ⟨x, dx, es, n, e, inst_keeps I hk, a, b⟩
theorem ObjAt.make {h : Heap} {own : List (Addr × Obj)} {x dx C : Addr} {es : List DictEntry} {n : Nat} {fs : List (Str × Value)} {no : List Str} (hh : ∀ q ∈ own, h.get? q.1 = some q.2)
    (h1 : (x, instObj C dx) ∈ own) (h2 : (dx, dictOf es n) ∈ own) (hf : FsIn es fs) (hn : NoIn es no) : ObjAt h (.ref x) C fs no :=
  ⟨x, dx, es, n, rfl, ⟨hh _ h1, rfl, rfl, hh _ h2⟩, hf, hn⟩
def matFs : List (Str × Value) := [(Str.ofString "a", .ref 93), (Str.ofString "b", .ref 92), (Str.ofString "c", .ref 92), (Str.ofString "d", .ref 93), (Str.ofString "e", .ref 92), (Str.ofString "f", .ref 92)]
abbrev MatAt (h : Heap) (v : Value) : Prop := ObjAt h v 455 matFs [Str.ofString "vector", Str.ofString "point"]
theorem fresh_of {g h s : Heap} {L : Addr} {own : List (Addr × Obj)} (N : News g L h own) (gG : ∀ b o, s.get? b = some o → g.get? b = some o) : ∀ q ∈ own, s.get? q.1 = none := fun q hq => by
  cases e : s.get? q.1 with
  | none => rfl
  | some o => have := gG _ _ e; rw [(N q hq).2.2] at this; cases this
section
variable {prog : Program} {w : World} {p : Program} {loose : List Str} {mean : ExcName → Option Value} {mg mb : Str → Option Value}
  {dp un : Nat} {gd : Option (List Code)} {cn : Str} {cs : Scope} {a : Addr} {ccd : Value} {cl : List (Str × Addr)} {outer : List Env} {A₀ : Around} {base h₀ : Heap} {L : Addr}
  {m : Str → Option Value} {news : List (Addr × Obj)} {s : Shared} {Q E : Value → Shared → Prop}
theorem matrix_spec (zB : Below A₀ base outer h₀) (zF : Fr h₀ L s.heap m) (zX : (hd.heap_39 w.params).In h₀) (zN : News h₀ L s.heap news) (zT : Top p loose mean mg mb h₀) (zk : cs.kind = .function) (hd : dp + 3 < recursionLimit) (hu : un + 60 < cLine)
    (ret : ∀ v own s', Holds w own (fun h => MatAt h v) → (∀ q ∈ own, s.heap.get? q.1 = none) → Sm s s' → Fr h₀ L s'.heap m → News h₀ L s'.heap (own ++ news) → Q v s') :
    wpAny (model prog w) (ktrTop dp un gd cn cs L a ccd cl outer) (call (.ref 455) [.ref 93, .ref 92, .ref 92, .ref 93, .ref 92, .ref 92]) Q E s := by
  k_dflt (refine' makeM (binds := fun x => [(Str.ofString "self", .ref x), (Str.ofString "a", .ref 93), (Str.ofString "b", .ref 92), (Str.ofString "c", .ref 92), (Str.ofString "d", .ref 93), (Str.ofString "e", .ref 92), (Str.ofString "f", .ref 92)]) zB zF zX zN zT zk ?m1 ?m2 ?m3 ?k6 ?k7 ?k8 ?k9 ?kB ?c2 ?c3 ?c4 ?c5 ?_; (case m1 => k_is); (case m2 => k_is); (case m3 => k_is); (case k6 => k_is); (case k7 => k_is); (case k8 => k_extra "om"); (case k9 => intro _ _ hXX; first | exact BindsTo.of_eq rfl | exact binds_K hXX rfl (by k_is) rfl rfl rfl); (case c5 => decide); (case kB => intro _; exact locs rfl); (case c2 => exact rfl); (case c3 => exact rfl); (case c4 => exact rfl); k_whole; intro gg gL gs ix dx gS lx gG gF gN gB gX gT gA gE; (replace lx := ltN lx); (try dsimp only); (try k_fold))
  k_extra "S"
  (all_goals (try dsimp only)); (all_goals (try k_unfold)); (all_goals (try dsimp only))
  rename News gg _ _ _ => N0
  refine retM (by assumption) N0 (fun kF kN => ⟨rfl, ret _ _ _ (fun h X hh => ObjAt.make hh (by k_mem) (by k_mem) ⟨rfl, rfl, rfl, rfl, rfl, rfl, trivial⟩ ⟨rfl, rfl, trivial⟩) (fresh_of N0 gG) (by k_extra "sm") kF kN⟩)

theorem rl_Mat_3 : True := by
  k_with "call ref" => (k_here; (with_reducible show wpAny _ _ (call (Value.ref 455) _) _ _ _); k_dflt (refine' matrix_spec ?cBzq ?cFzq ?cXzq ?cNzq ?cTzq ?ckzq ?cdzq ?cuzq  ?_; (case cBzq => k_asm); (case cFzq => k_asm); (case cXzq => k_asm); (case cNzq => k_asm); (case cTzq => k_asm); (case ckzq => first | rfl | assumption); (case cdzq => k_extra "om"); (case cuzq => k_extra "om");  k_whole; intro _ _ _ _ _ _ _ _; (try k_sweep)))
  trivial
theorem identity_spec (zB : Below A₀ base outer h₀) (zF : Fr h₀ L s.heap m) (zX : (hd.heap_39 w.params).In h₀) (zN : News h₀ L s.heap news) (zT : Top p loose mean mg mb h₀) (zk : cs.kind = .function) (hd : dp + 4 < recursionLimit) (hu : un + 80 < cLine)
    (ret : ∀ v own s', Holds w own (fun h => MatAt h v) → (∀ q ∈ own, s.heap.get? q.1 = none) → Sm s s' → Fr h₀ L s'.heap m → News h₀ L s'.heap (own ++ news) → Q v s') :
    wpAny (model prog w) (ktrTop dp un gd cn cs L a ccd cl outer) (call (.ref 466) []) Q E s := by
  k_dflt (refine' enterM (mu := []) (binds := []) zB zF zX zN (fun _ _ h => nomatch h) zT zk ?k6 ?k7 ?k8 ?k9 ?kB ?c2 ?c3 ?c4 ?c5 ?_; (case k6 => k_is); (case k7 => k_is); (case k8 => k_extra "om"); (case k9 => first | exact BindsTo.of_eq rfl | exact binds_K (Frag.In.keeps zX zF.keep) rfl (by k_is) rfl rfl rfl); (case c5 => decide); (case kB => exact locs rfl); (case c2 => exact rfl); (case c3 => exact rfl); (case c4 => exact rfl); k_whole; intro gg gL gs gS gG gF gN gB gX gT gA gE; (try dsimp only); (try k_fold))
  k_extra "S"
  (all_goals (try dsimp only)); (all_goals (try k_unfold)); (all_goals (try dsimp only))
  rename News gg _ _ _ => N0
  refine retM (by assumption) N0 (fun kF kN => ret _ _ _ (by assumption) (fun q hq => fresh_of N0 (fun b o e => gG b o e (fun h => nomatch h)) q (List.mem_append_left _ hq)) (by k_extra "sm") kF ?_)
  simp only [List.append_nil] at kN
  exact kN


theorem vec_eq' {x y : Int} : fr1 (1 * x * (1 * 2) + 0 * y * (1 * 2)) (1 * 2 * (1 * 2)) = fr1 x 2 ∧ fr2 (1 * x * (1 * 2) + 0 * y * (1 * 2)) (1 * 2 * (1 * 2)) = fr2 x 2 := by
  refine fr_eq (by k_extra "om") (by k_extra "om") ?_; omega
theorem vec_eq2 {x y : Int} : fr1 (0 * x * (1 * 2) + 1 * y * (1 * 2)) (1 * 2 * (1 * 2)) = fr1 y 2 ∧ fr2 (0 * x * (1 * 2) + 1 * y * (1 * 2)) (1 * 2 * (1 * 2)) = fr2 y 2 := by
  refine fr_eq (by k_extra "om") (by k_extra "om") ?_; omega
theorem vector_spec {vm vp : Value} {x y : Int} (zB : Below A₀ base outer h₀) (zF : Fr h₀ L s.heap m) (zX : (hd.heap_39 w.params).In h₀) (zN : News h₀ L s.heap news) (zT : Top p loose mean mg mb h₀) (zk : cs.kind = .function) (hd : dp + 5 < recursionLimit) (hu : un + 100 < cLine) (hm : MatAt s.heap vm) (hp : PtAt s.heap vp x 2 y 2) (h1 : -(2 ^ 20) < x ∧ x < 2 ^ 20) (h2 : -(2 ^ 20) < y ∧ y < 2 ^ 20)
    (ret : ∀ v own s', PtIn own v x 2 y 2 → Sm s s' → Fr h₀ L s'.heap m → News h₀ L s'.heap (own ++ news) → Q v s') :
    wpAny (model prog w) (ktrTop dp un gd cn cs L a ccd cl outer) (call (.ref 424) [vm, vp]) Q E s := by
  obtain ⟨ix, dx, es, n, rfl, I, ⟨f1, f2, f3, f4, f5, f6, _⟩, ⟨n1, n2, _⟩⟩ := hm
  obtain ⟨a2, x2, y2, rfl, i2, j2, k2⟩ := hp
  k_dflt (refine' enterM (mu := []) (binds := [(Str.ofString "self", .ref ix), (Str.ofString "p", .ref a2)]) zB zF zX zN (fun _ _ h => nomatch h) zT zk ?k6 ?k7 ?k8 ?k9 ?kB ?c2 ?c3 ?c4 ?c5 ?_; (case k6 => k_is); (case k7 => k_is); (case k8 => k_extra "om"); (case k9 => first | exact BindsTo.of_eq rfl | exact binds_K (Frag.In.keeps zX zF.keep) rfl (by k_is) rfl rfl rfl); (case c5 => decide); (case kB => exact locs rfl); (case c2 => exact rfl); (case c3 => exact rfl); (case c4 => exact rfl); k_whole; intro gg gL gs gS gG gF gN gB gX gT gA gE; (try dsimp only); (try k_fold))
  have I := inst_keeps I fun b o e => gG b o e (fun h => nomatch h)
  have i2 := tupG i2 gG
  have j2 := j2.gsub gG
  have k2 := k2.gsub gG
  k_extra "S"
  (all_goals (try dsimp only)); (all_goals (try k_unfold)); (all_goals (try dsimp only))
  have e7 := fun u1 u2 => frO_of (vec_eq' (x := x) (y := y)) u1 u2
  have e8 := fun u1 u2 => frO_of (vec_eq2 (x := x) (y := y)) u1 u2
  refine retM (by assumption) (by assumption) (fun kF kN => ?_)
  rw [e7, e8] at kN
  exact ret _ _ _ ⟨_, _, _, _, _, _, _, rfl, rfl⟩ (by k_extra "sm") kF (news_pick3 kN (by k_mem) (by k_mem) (by k_mem))

theorem rl_Mat_5 : True := by
  k_with "call ref" => (k_here; (with_reducible show wpAny _ _ (call (Value.ref 424) _) _ _ _); k_dflt (refine' vector_spec ?cBzq ?cFzq ?cXzq ?cNzq ?cTzq ?ckzq ?cdzq ?cuzq ?p0zq ?p1zq ?p2zq ?p3zq ?_; (case cBzq => k_asm); (case cFzq => k_asm); (case cXzq => k_asm); (case cNzq => k_asm); (case cTzq => k_asm); (case ckzq => first | rfl | assumption); (case cdzq => k_extra "om"); (case cuzq => k_extra "om"); (case p0zq => (exact ⟨_, _, _, _, rfl, inst_keeps (by assumption) (Fr.keep (by k_asm)), ⟨by assumption, by assumption, by assumption, by assumption, by assumption, by assumption, trivial⟩, ⟨by assumption, by assumption, trivial⟩⟩)); (case p1zq => (exact PtAt.keeps (by assumption) (Fr.keep (by k_asm)))); (case p2zq => assumption); (case p3zq => assumption); k_whole; intro v9 own9 s9 H9 S9 F9 N9; (obtain ⟨a9, x9, y9, s91, s92, s93, s94, e91, e92⟩ := H9; subst e91; subst e92; (try dsimp only [List.cons_append, List.nil_append] at N9)); (revert s9 S9 F9 N9 a9 x9 y9 s91 s92 s93 s94; intros); (try k_sweep)))
  trivial

theorem pt_eq {x : Int} : fr1 (x * 1 + 0 * 2) (2 * 1) = fr1 x 2 ∧ fr2 (x * 1 + 0 * 2) (2 * 1) = fr2 x 2 := by
  refine fr_eq (by k_extra "om") (by k_extra "om") ?_; omega
theorem point_spec {vm vp : Value} {x y : Int} (zB : Below A₀ base outer h₀) (zF : Fr h₀ L s.heap m) (zX : (hd.heap_39 w.params).In h₀) (zN : News h₀ L s.heap news) (zT : Top p loose mean mg mb h₀) (zk : cs.kind = .function) (hd : dp + 6 < recursionLimit) (hu : un + 120 < cLine) (hm : MatAt s.heap vm) (hp : PtAt s.heap vp x 2 y 2) (h1 : -(2 ^ 20) < x ∧ x < 2 ^ 20) (h2 : -(2 ^ 20) < y ∧ y < 2 ^ 20)
    (ret : ∀ v own s', PtIn own v x 2 y 2 → Sm s s' → Fr h₀ L s'.heap m → News h₀ L s'.heap (own ++ news) → Q v s') :
    wpAny (model prog w) (ktrTop dp un gd cn cs L a ccd cl outer) (call (.ref 431) [vm, vp]) Q E s := by
  obtain ⟨ix, dx, es, n, rfl, I, ⟨f1, f2, f3, f4, f5, f6, _⟩, ⟨n1, n2, _⟩⟩ := hm
  k_dflt (refine' enterM (mu := []) (binds := [(Str.ofString "self", .ref ix), (Str.ofString "p", vp)]) zB zF zX zN (fun _ _ h => nomatch h) zT zk ?k6 ?k7 ?k8 ?k9 ?kB ?c2 ?c3 ?c4 ?c5 ?_; (case k6 => k_is); (case k7 => k_is); (case k8 => k_extra "om"); (case k9 => first | exact BindsTo.of_eq rfl | exact binds_K (Frag.In.keeps zX zF.keep) rfl (by k_is) rfl rfl rfl); (case c5 => decide); (case kB => exact locs rfl); (case c2 => exact rfl); (case c3 => exact rfl); (case c4 => exact rfl); k_whole; intro gg gL gs gS gG gF gN gB gX gT gA gE; (try dsimp only); (try k_fold))
  have I := inst_keeps I fun b o e => gG b o e (fun h => nomatch h)
  have j2 := hp.gsub gG
  k_extra "S"
  (all_goals (try dsimp only)); (all_goals (try k_unfold)); (all_goals (try dsimp only))
  have e7 := fun u1 u2 => frO_of (pt_eq (x := x)) u1 u2
  have e8 := fun u1 u2 => frO_of (pt_eq (x := y)) u1 u2
  refine retM (by assumption) (by assumption) (fun kF kN => ?_)
  rw [e7] at kN
  (try rw [e8] at kN)
  exact ret _ _ _ ⟨_, _, _, _, _, _, _, rfl, rfl⟩ (by k_extra "sm") kF (news_pick3 kN (by k_mem) (by k_mem) (by k_mem))
end
end
end Mine

namespace Mine
section


theorem rl_Col_3 : True := by
  k_with "subscriptTail Attribute" => (k_here; k_dflt (refine kba_turn (value' := PySem.Expr.Name (PySem.Str.ofString "_") ⟨0, 0, 0, 0⟩) (fun _ => rfl) ?_))
  trivial
/-- a shade: three ints -/
inductive ShadeAt (h : Heap) (v : Value) (r g b : Int) : Prop
  | mk (a : _) (t1 : _) (t2 : _) (t3 : _) (q1 : v = .ref a) (q2 : IsTup h a #[.int r t1, .int g t2, .int b t3]) : ShadeAt h v r g b
/-- four ints -/
inductive FourAt (h : Heap) (v : Value) (r g b al : Int) : Prop
  | mk (a : _) (t1 : _) (t2 : _) (t3 : _) (t4 : _) (q1 : v = .ref a) (q2 : IsTup h a #[.int r t1, .int g t2, .int b t3, .int al t4]) : FourAt h v r g b al
abbrev fourO (r g b al : Int) (t1 t2 t3 t4 : Tok) : Obj := { cls := .type "tuple", data := .seq #[.int r t1, .int g t2, .int b t3, .int al t4] }
theorem ShadeAt.keeps {h h' : Heap} {v : Value} {r g b : Int} (x : ShadeAt h v r g b) (hk : ∀ b o, h.get? b = some o → h'.get? b = some o) : ShadeAt h' v r g b := let ⟨a, t1, t2, t3, e, i⟩ := x; ⟨a, t1, t2, t3, e, i.keeps hk⟩
theorem FourAt.keeps {h h' : Heap} {v : Value} {r g b al : Int} (x : FourAt h v r g b al) (hk : ∀ b o, h.get? b = some o → h'.get? b = some o) : FourAt h' v r g b al := let ⟨a, t1, t2, t3, t4, e, i⟩ := x; ⟨a, t1, t2, t3, t4, e, i.keeps hk⟩
section
variable {prog : Program} {w : World} {p : Program} {loose : List Str} {mean : ExcName → Option Value} {mg mb : Str → Option Value}
  {dp un : Nat} {gd : Option (List Code)} {cn : Str} {cs : Scope} {a : Addr} {ccd : Value} {cl : List (Str × Addr)} {outer : List Env} {A₀ : Around} {base h₀ : Heap} {L : Addr}
  {m : Str → Option Value} {news : List (Addr × Obj)} {s : Shared} {Q E : Value → Shared → Prop}
theorem weighted_spec {n al : Int} {t1 t2 : Tok} (zB : Below A₀ base outer h₀) (zF : Fr h₀ L s.heap m) (zX : (hd.heap_39 w.params).In h₀) (zN : News h₀ L s.heap news) (zT : Top p loose mean mg mb h₀) (zk : cs.kind = .function) (hd : dp + 1 < recursionLimit) (hu : un + 20 < cLine) (h1 : 0 ≤ n ∧ n ≤ 255) (h2 : 0 ≤ al ∧ al ≤ 255)
    (ret : ∀ u s', Sm s s' → Fr h₀ L s'.heap m → News h₀ L s'.heap news → Q (.int (wgt n al) u) s') :
    wpAny (model prog w) (ktrTop dp un gd cn cs L a ccd cl outer) (call (.ref 28) [.int n t1, .int al t2]) Q E s := by
  k_dflt (refine' enterM (mu := []) (binds := [(Str.ofString "n", .int n t1), (Str.ofString "alpha", .int al t2)]) zB zF zX zN (fun _ _ h => nomatch h) zT zk ?k6 ?k7 ?k8 ?k9 ?kB ?c2 ?c3 ?c4 ?c5 ?_; (case k6 => k_is); (case k7 => k_is); (case k8 => k_extra "om"); (case k9 => first | exact BindsTo.of_eq rfl | exact binds_K (Frag.In.keeps zX zF.keep) rfl (by k_is) rfl rfl rfl); (case c5 => decide); (case kB => exact locs rfl); (case c2 => exact rfl); (case c3 => exact rfl); (case c4 => exact rfl); k_whole; intro gg gL gs gS gG gF gN gB gX gT gA gE; (try dsimp only); (try k_fold))
  k_extra "S"
  (all_goals (try dsimp only)); (all_goals (try k_unfold)); (all_goals (try dsimp only))
  exact retM (by assumption) (by assumption) (fun kF kN => ret _ _ (by k_extra "sm") kF (news_drop kN))

theorem rl_Col_4 : True := by
  k_with "call ref" => (k_here; (with_reducible show wpAny _ _ (call (Value.ref 28) _) _ _ _); k_dflt (refine' weighted_spec ?cBzq ?cFzq ?cXzq ?cNzq ?cTzq ?ckzq ?cdzq ?cuzq ?p0zq ?p1zq ?_; (case cBzq => k_asm); (case cFzq => k_asm); (case cXzq => k_asm); (case cNzq => k_asm); (case cTzq => k_asm); (case ckzq => first | rfl | assumption); (case cdzq => k_extra "om"); (case cuzq => k_extra "om"); (case p0zq => k_extra "om"); (case p1zq => k_extra "om"); k_whole; intro _ _ _ _ _; (try k_sweep)))
  trivial

theorem premultiplied_spec {vs : Value} {r g b al : Int} {t2 : Tok} (zB : Below A₀ base outer h₀) (zF : Fr h₀ L s.heap m) (zX : (hd.heap_39 w.params).In h₀) (zN : News h₀ L s.heap news) (zT : Top p loose mean mg mb h₀) (zk : cs.kind = .function) (hd : dp + 2 < recursionLimit) (hu : un + 40 < cLine) (hs : ShadeAt s.heap vs r g b) (h1 : 0 ≤ r ∧ r ≤ 255) (h2 : 0 ≤ g ∧ g ≤ 255) (h3 : 0 ≤ b ∧ b ≤ 255) (h4 : 0 ≤ al ∧ al ≤ 255)
    (ret : ∀ x t1 t2 t3 t4 s', Sm s s' → Fr h₀ L s'.heap m → News h₀ L s'.heap ((x, fourO (wgt r al) (wgt g al) (wgt b al) al t1 t2 t3 t4) :: news) → Q (.ref x) s') :
    wpAny (model prog w) (ktrTop dp un gd cn cs L a ccd cl outer) (call (.ref 35) [vs, .int al t2]) Q E s := by
  obtain ⟨a, u1, u2, u3, rfl, i⟩ := hs
  k_dflt (refine' enterM (mu := []) (binds := [(Str.ofString "shade", .ref a), (Str.ofString "alpha", .int al t2)]) zB zF zX zN (fun _ _ h => nomatch h) zT zk ?k6 ?k7 ?k8 ?k9 ?kB ?c2 ?c3 ?c4 ?c5 ?_; (case k6 => k_is); (case k7 => k_is); (case k8 => k_extra "om"); (case k9 => first | exact BindsTo.of_eq rfl | exact binds_K (Frag.In.keeps zX zF.keep) rfl (by k_is) rfl rfl rfl); (case c5 => decide); (case kB => exact locs rfl); (case c2 => exact rfl); (case c3 => exact rfl); (case c4 => exact rfl); k_whole; intro gg gL gs gS gG gF gN gB gX gT gA gE; (try dsimp only); (try k_fold))
  have j := tupG i gG
  k_extra "S"
  (all_goals (try dsimp only)); (all_goals (try k_unfold)); (all_goals (try dsimp only))
  exact retM (by assumption) (by assumption) (fun kF kN => ret _ _ _ _ _ _ (by k_extra "sm") kF (news_pick kN (by k_mem)))

/-- Stop(offset, shade, alpha) -/
theorem mkstop_spec {vo vs : Value} {al : Int} {ta : Tok} (zB : Below A₀ base outer h₀) (zF : Fr h₀ L s.heap m) (zX : (hd.heap_39 w.params).In h₀) (zN : News h₀ L s.heap news) (zT : Top p loose mean mg mb h₀) (zk : cs.kind = .function) (hd : dp + 3 < recursionLimit) (hu : un + 60 < cLine)
    (ret : ∀ x dx es n s', dx < x → (FsIn es [(Str.ofString "offset", vo), (Str.ofString "shade", vs), (Str.ofString "alpha", .int al ta)] ∧ NoIn es [Str.ofString "parts"]) → Sm s s' → Fr h₀ L s'.heap m → News h₀ L s'.heap ((x, instObj 246 dx) :: (dx, dictOf es n) :: news) → Q (.ref x) s') :
    wpAny (model prog w) (ktrTop dp un gd cn cs L a ccd cl outer) (call (.ref 246) [vo, vs, .int al ta]) Q E s := by
  k_dflt (refine' makeM (binds := fun x => [(Str.ofString "self", .ref x), (Str.ofString "offset", vo), (Str.ofString "shade", vs), (Str.ofString "alpha", .int al ta)]) zB zF zX zN zT zk ?m1 ?m2 ?m3 ?k6 ?k7 ?k8 ?k9 ?kB ?c2 ?c3 ?c4 ?c5 ?_; (case m1 => k_is); (case m2 => k_is); (case m3 => k_is); (case k6 => k_is); (case k7 => k_is); (case k8 => k_extra "om"); (case k9 => intro _ _ hXX; first | exact BindsTo.of_eq rfl | exact binds_K hXX rfl (by k_is) rfl rfl rfl); (case c5 => decide); (case kB => intro _; exact locs rfl); (case c2 => exact rfl); (case c3 => exact rfl); (case c4 => exact rfl); k_whole; intro gg gL gs ix dx gS lx gG gF gN gB gX gT gA gE; (replace lx := ltN lx); (try dsimp only); (try k_fold))
  k_extra "S"
  (all_goals (try dsimp only)); (all_goals (try k_unfold)); (all_goals (try dsimp only))
  refine retM (by assumption) (by assumption) (fun kF kN => ⟨rfl, ret _ _ _ _ _ lx ⟨⟨rfl, rfl, rfl, trivial⟩, ⟨rfl, trivial⟩⟩ (by k_extra "sm") kF kN⟩)

theorem parts_spec {v vo vs : Value} {r g b al : Int} {ta : Tok} (zB : Below A₀ base outer h₀) (zF : Fr h₀ L s.heap m) (zX : (hd.heap_39 w.params).In h₀) (zN : News h₀ L s.heap news) (zT : Top p loose mean mg mb h₀) (zk : cs.kind = .function) (hd : dp + 1 < recursionLimit) (hu : un + 20 < cLine) (hv : ObjAt s.heap v 246 [(Str.ofString "offset", vo), (Str.ofString "shade", vs), (Str.ofString "alpha", .int al ta)] [Str.ofString "parts"]) (hs : ShadeAt s.heap vs r g b)
    (ret : ∀ x t1 t2 t3 t4 s', Sm s s' → Fr h₀ L s'.heap m → News h₀ L s'.heap ((x, fourO r g b al t1 t2 t3 t4) :: news) → Q (.ref x) s') :
    wpAny (model prog w) (ktrTop dp un gd cn cs L a ccd cl outer) (call (.ref 243) [v]) Q E s := by
  obtain ⟨ix, dx, es, n, rfl, I, ⟨f1, f2, f3, _⟩, ⟨n1, _⟩⟩ := hv
  obtain ⟨a, u1, u2, u3, rfl, i⟩ := hs
  k_dflt (refine' enterM (mu := []) (binds := [(Str.ofString "self", .ref ix)]) zB zF zX zN (fun _ _ h => nomatch h) zT zk ?k6 ?k7 ?k8 ?k9 ?kB ?c2 ?c3 ?c4 ?c5 ?_; (case k6 => k_is); (case k7 => k_is); (case k8 => k_extra "om"); (case k9 => first | exact BindsTo.of_eq rfl | exact binds_K (Frag.In.keeps zX zF.keep) rfl (by k_is) rfl rfl rfl); (case c5 => decide); (case kB => exact locs rfl); (case c2 => exact rfl); (case c3 => exact rfl); (case c4 => exact rfl); k_whole; intro gg gL gs gS gG gF gN gB gX gT gA gE; (try dsimp only); (try k_fold))
  have I := inst_keeps I fun b o e => gG b o e (fun h => nomatch h)
  have j := tupG i gG
  k_extra "S"
  (all_goals (try dsimp only)); (all_goals (try k_unfold)); (all_goals (try dsimp only))
  exact retM (by assumption) (by assumption) (fun kF kN => ret _ _ _ _ _ _ (by k_extra "sm") kF (news_pick kN (by k_mem)))

theorem rl_Col_5 : True := by
  k_with "call ref" => (k_here; (with_reducible show wpAny _ _ (call (Value.ref 108) _) _ _ _); k_dflt (refine' fraction1_spec ?cBzq ?cFzq ?cXzq ?cNzq ?cTzq ?ckzq ?cdzq ?cuzq ?p0zq ?_; (case cBzq => k_asm); (case cFzq => k_asm); (case cXzq => k_asm); (case cNzq => k_asm); (case cTzq => k_asm); (case ckzq => first | rfl | assumption); (case cdzq => k_extra "om"); (case cuzq => k_extra "om"); (case p0zq => k_extra "om"); k_whole; intro _ _ _ _ _ _ _; (try k_sweep)))
  k_with "call ref" => (k_here; (with_reducible show wpAny _ _ (call (Value.ref 171) _) _ _ _); k_dflt (refine' rounded_spec ?cBzq ?cFzq ?cXzq ?cNzq ?cTzq ?ckzq ?cdzq ?cuzq ?p0zq ?p1zq ?p2zq ?_; (case cBzq => k_asm); (case cFzq => k_asm); (case cXzq => k_asm); (case cNzq => k_asm); (case cTzq => k_asm); (case ckzq => first | rfl | assumption); (case cdzq => k_extra "om"); (case cuzq => k_extra "om"); (case p0zq => (first | exact FracAt.keeps (by with_reducible assumption) (Fr.keep (by k_asm)) | exact frac_news (by k_asm) (by k_mem) | exact zero_at (Frag.In.keeps (by with_reducible assumption) (Fr.keep (by with_reducible assumption))) | exact one_at (Frag.In.keeps (by with_reducible assumption) (Fr.keep (by with_reducible assumption))) | assumption)); (case p1zq => k_extra "om"); (case p2zq => k_extra "om"); k_whole; intro _ _ _ _ _; (try k_sweep)))
  trivial

def rnd (x y W D : Int) : Int := (2 * (x * D + (y - x) * W) + D) / (2 * D)
theorem rnd_eq {x y W D : Int} : (2 * (x * (1 * D) + (y - x) * W * 1) + 1 * (1 * D)) / (2 * (1 * (1 * D))) = rnd x y W D := by
  simp only [Int.mul_one, Int.one_mul]; rfl
theorem between_parts_spec {va : Value} {x y W D : Int} {t1 t2 : Tok} (zB : Below A₀ base outer h₀) (zF : Fr h₀ L s.heap m) (zX : (hd.heap_39 w.params).In h₀) (zN : News h₀ L s.heap news) (zT : Top p loose mean mg mb h₀) (zk : cs.kind = .function) (hd : dp + 5 < recursionLimit) (hu : un + 100 < cLine) (hs : FracAt s.heap va W D) (h1 : 0 ≤ x ∧ x ≤ 255) (h2 : 0 ≤ y ∧ y ≤ 255) (hD : 0 < D ∧ D < 2 ^ 10) (hW : 0 ≤ W ∧ W < 2 ^ 10)
    (ret : ∀ u s', Sm s s' → Fr h₀ L s'.heap m → News h₀ L s'.heap news → Q (.int (rnd x y W D) u) s') :
    wpAny (model prog w) (ktrTop dp un gd cn cs L a ccd cl outer) (call (.ref 257) [.int x t1, .int y t2, va]) Q E s := by
  have q1 := mul_bd (x := y - x) (y := W) (a := 2 ^ 8) (b := 2 ^ 10) (by k_extra "om") (by k_extra "om")
  have q2 := mul_bd (x := x) (y := 1 * D) (a := 2 ^ 8) (b := 2 ^ 10) (by k_extra "om") (by k_extra "om")
  k_dflt (refine' enterM (mu := []) (binds := [(Str.ofString "one", .int x t1), (Str.ofString "other", .int y t2), (Str.ofString "share", va)]) zB zF zX zN (fun _ _ h => nomatch h) zT zk ?k6 ?k7 ?k8 ?k9 ?kB ?c2 ?c3 ?c4 ?c5 ?_; (case k6 => k_is); (case k7 => k_is); (case k8 => k_extra "om"); (case k9 => first | exact BindsTo.of_eq rfl | exact binds_K (Frag.In.keeps zX zF.keep) rfl (by k_is) rfl rfl rfl); (case c5 => decide); (case kB => exact locs rfl); (case c2 => exact rfl); (case c3 => exact rfl); (case c4 => exact rfl); k_whole; intro gg gL gs gS gG gF gN gB gX gT gA gE; (try dsimp only); (try k_fold))
  have j := hs.gsub gG
  k_extra "S"
  (all_goals (try dsimp only)); (all_goals (try k_unfold)); (all_goals (try dsimp only))
  rw [rnd_eq]
  exact retM (by assumption) (by assumption) (fun kF kN => ret _ _ (by k_extra "sm") kF (news_drop kN))
end
end
end Mine

namespace Mine
section


structure Row where
  o : Int
  r : Int
  g : Int
  b : Int
  al : Int
def Row.ok (x : Row) : Prop := (0 ≤ x.r ∧ x.r ≤ 255) ∧ (0 ≤ x.g ∧ x.g ≤ 255) ∧ (0 ≤ x.b ∧ x.b ≤ 255) ∧ (0 ≤ x.al ∧ x.al ≤ 255)
/-- the places told in order -/
def ordF : Int → List Row → List Row
  | _, [] => []
  | last, e :: r => { e with o := max last (min 8 (max 0 e.o)) } :: ordF (max last (min 8 (max 0 e.o))) r
def lastO : Int → List Row → Int
  | last, [] => last
  | last, e :: r => lastO (max last (min 8 (max 0 e.o))) r
theorem ordF_snoc : ∀ (last : Int) (l : List Row) (e : Row), ordF last (l ++ [e]) = ordF last l ++ [{ e with o := max (lastO last l) (min 8 (max 0 e.o)) }]
  | _, [], _ => rfl
  | last, x :: r, e => by simp only [List.cons_append, ordF, lastO, ordF_snoc]
theorem ordF_len : ∀ (last : Int) (l : List Row), (ordF last l).length = l.length
  | _, [] => rfl
  | last, x :: r => by simp only [ordF, List.length_cons, ordF_len]
theorem lastO_snoc : ∀ (last : Int) (l : List Row) (e : Row), lastO last (l ++ [e]) = max (lastO last l) (min 8 (max 0 e.o))
  | _, [], _ => rfl
  | last, x :: r, e => by simp only [List.cons_append, lastO, lastO_snoc]
theorem lastO_bd : ∀ (last : Int) (l : List Row), (0 ≤ last ∧ last ≤ 8) → 0 ≤ lastO last l ∧ lastO last l ≤ 8
  | _, [], h => h
  | last, x :: r, h => by
    simp only [lastO]
    exact lastO_bd _ r (by k_extra "om")
theorem Holds.mono {w : World} {bs : List (Addr × Obj)} {P P' : Heap → Prop} (H : Holds w bs P) (k : ∀ h, P h → P' h) : Holds w bs P' := fun h X hh => k h (H h X hh)
theorem Holds.more {w : World} {bs cs : List (Addr × Obj)} {P : Heap → Prop} (H : Holds w bs P) (k : ∀ q ∈ bs, q ∈ cs) : Holds w cs P := fun h X hh => H h X fun q hq => hh q (k q hq)
/-- a stop as it is told to Stops: (offset, shade, alpha) -/
inductive ToldIn (w : World) (bs : List (Addr × Obj)) (v : Value) (x : Row) : Prop
  | mk (a : _) (vo : _) (vs : _) (ta : _) (q1 : v = .ref a) (q2 : Holds w bs (fun h => IsTup h a #[vo, vs, .int x.al ta])) (q3 : Holds w bs (fun h => FracAt h vo x.o 8)) (q4 : Holds w bs (fun h => ShadeAt h vs x.r x.g x.b)) : ToldIn w bs v x
theorem ToldIn.more {w : World} {bs cs : List (Addr × Obj)} {v : Value} {x : Row} (q : ToldIn w bs v x) (k : ∀ q ∈ bs, q ∈ cs) : ToldIn w cs v x := let ⟨a, vo, vs, ta, e, i, f, g⟩ := q; ⟨a, vo, vs, ta, e, i.more k, f.more k, g.more k⟩
theorem paired_mono {α β : Type} {F G : α → β → Prop} (h : ∀ a b, F a b → G a b) : ∀ {l₁ : List α} {l₂ : List β}, Paired F l₁ l₂ → Paired G l₁ l₂
  | _, _, .nil => .nil
  | _, _, .cons x r => .cons (h _ _ x) (paired_mono h r)
theorem paired_get {α β : Type} {F : α → β → Prop} : ∀ {l₁ : List α} {l₂ : List β}, Paired F l₁ l₂ → ∀ (i : Nat) (a : α), l₁[i]? = some a → ∃ b, l₂[i]? = some b ∧ F a b
  | _, _, .nil, i, a, h => by simp at h
  | _, _, .cons x r, 0, a, h => by simp at h; subst h; exact ⟨_, rfl, x⟩
  | _, _, .cons x r, i + 1, a, h => by simpa using paired_get r i a (by simpa using h)
theorem paired_get2 {α β : Type} {F : α → β → Prop} : ∀ {l₁ : List α} {l₂ : List β}, Paired F l₁ l₂ → ∀ (i : Nat) (b : β), l₂[i]? = some b → ∃ a, l₁[i]? = some a ∧ F a b
  | _, _, .nil, i, a, h => by simp at h
  | _, _, .cons x r, 0, a, h => by simp at h; subst h; exact ⟨_, rfl, x⟩
  | _, _, .cons x r, i + 1, a, h => by simpa using paired_get2 r i a (by simpa using h)
inductive RowsIn (w : World) (bs : List (Addr × Obj)) (v : Value) (rows : List Row) : Prop
  | mk (l : _) (vs : _) (q1 : v = .ref l) (q2 : Holds w bs (fun h => h.IsList l vs.toArray)) (q3 : Paired (ToldIn w bs) vs rows) : RowsIn w bs v rows
theorem RowsIn.more {w : World} {bs cs : List (Addr × Obj)} {v : Value} {rows : List Row} (q : RowsIn w bs v rows) (k : ∀ q ∈ bs, q ∈ cs) : RowsIn w cs v rows := let ⟨l, vs, e, i, f⟩ := q; ⟨l, vs, e, i.more k, paired_mono (fun _ _ x => x.more k) f⟩
theorem isList_keeps {h h' : Heap} {l : Addr} {items : Array Value} (x : h.IsList l items) (hk : ∀ b o, h.get? b = some o → h'.get? b = some o) : h'.IsList l items := let ⟨o, ho, r⟩ := x; ⟨o, hk _ _ ho, r⟩
/-- a Stop -/
inductive StopAt (h : Heap) (v : Value) (x : Row) : Prop
  | mk (vo : _) (vs : _) (ta : _) (q1 : ObjAt h v 246 [(Str.ofString "offset", vo), (Str.ofString "shade", vs), (Str.ofString "alpha", .int x.al ta)] [Str.ofString "parts"]) (q2 : FracAt h vo x.o 8) (q3 : ShadeAt h vs x.r x.g x.b) : StopAt h v x
theorem StopAt.keeps {h h' : Heap} {v : Value} {x : Row} (q : StopAt h v x) (hk : ∀ b o, h.get? b = some o → h'.get? b = some o) : StopAt h' v x := let ⟨vo, vs, ta, i, f, g⟩ := q; ⟨vo, vs, ta, i.keeps hk, f.keeps hk, g.keeps hk⟩
/-- a Stops -/
inductive StopsAt (h : Heap) (v : Value) (rows : List Row) : Prop
  | mk (l : _) (vs : _) (q1 : ObjAt h v 293 [(Str.ofString "stops", .ref l)] [Str.ofString "last_colour", Str.ofString "colour", Str.ofString "mixed"]) (q2 : h.IsList l vs.toArray) (q3 : Paired (StopAt h) vs rows) : StopsAt h v rows
theorem StopsAt.keeps {h h' : Heap} {v : Value} {rows : List Row} (q : StopsAt h v rows) (hk : ∀ b o, h.get? b = some o → h'.get? b = some o) : StopsAt h' v rows := let ⟨l, vs, e, i, f⟩ := q; ⟨l, vs, e.keeps hk, isList_keeps i hk, paired_mono (fun _ _ x => x.keeps hk) f⟩
/-- a Stop whose own two objects lie in this list, the rest in the base -/
inductive StopIn (w : World) (bs own : List (Addr × Obj)) (v : Value) (x : Row) : Prop
  | mk (ix : _) (dx : _) (es : _) (n : _) (vo : _) (vs : _) (ta : _) (q1 : v = .ref ix) (q2 : (ix, instObj 246 dx) ∈ own) (q3 : (dx, dictOf es n) ∈ own) (q4 : (FsIn es [(Str.ofString "offset", vo), (Str.ofString "shade", vs), (Str.ofString "alpha", .int x.al ta)] ∧ NoIn es [Str.ofString "parts"])) (q5 : Holds w bs (fun h => FracAt h vo x.o 8)) (q6 : Holds w bs (fun h => ShadeAt h vs x.r x.g x.b)) : StopIn w bs own v x
theorem StopIn.more {w : World} {bs own own' : List (Addr × Obj)} {v : Value} {x : Row} (q : StopIn w bs own v x) (hs : ∀ p ∈ own, p ∈ own') : StopIn w bs own' v x := let ⟨ix, dx, es, n, vo, vs, ta, e, a, b, c, d1, d2⟩ := q; ⟨ix, dx, es, n, vo, vs, ta, e, hs _ a, hs _ b, c, d1, d2⟩
theorem StopIn.at {w : World} {bs own : List (Addr × Obj)} {v : Value} {x : Row} {h : Heap} (q : StopIn w bs own v x) (X : (hd.heap_39 w.params).In h) (ho : ∀ q ∈ own, h.get? q.1 = some q.2) (hb : ∀ q ∈ bs, h.get? q.1 = some q.2) : StopAt h v x := by
  obtain ⟨ix, dx, es, n, vo, vs, ta, rfl, a, b, c, d, e⟩ := q
  exact ⟨vo, vs, ta, ObjAt.make ho a b c.1 c.2, d h X hb, e h X hb⟩
section
variable {prog : Program} {w : World} {p : Program} {loose : List Str} {mean : ExcName → Option Value} {mg mb : Str → Option Value}
  {dp un : Nat} {gd : Option (List Code)} {cn : Str} {cs : Scope} {a : Addr} {ccd : Value} {cl : List (Str × Addr)} {outer : List Env} {A₀ : Around} {base h₀ : Heap} {L : Addr}
  {m : Str → Option Value} {news : List (Addr × Obj)} {s : Shared} {Q E : Value → Shared → Prop}
theorem pad_base {g : Heap} {va v : Value} {x b : Int} (ha : FracAt g va x b) (X : (hd.heap_39 w.params).In g) (hb : 0 < b) (c : (v = va ∧ 0 ≤ x ∧ x ≤ b) ∨ (v = .ref 92 ∧ x < 0) ∨ (v = .ref 93 ∧ b < x)) : FracAt g v (max 0 (min x b)) b := by
  rcases c with ⟨rfl, h1, h2⟩ | ⟨rfl, h1⟩ | ⟨rfl, h1⟩
  · rw [show max 0 (min x b) = x by k_extra "om"]; exact ha
  · rw [show max 0 (min x b) = 0 by k_extra "om"]; exact (zero_at X).eq (fr_eq (by k_extra "om") hb (by k_extra "om"))
  · rw [show max 0 (min x b) = b by k_extra "om"]; exact (one_at X).eq (fr_eq (by k_extra "om") hb (by k_extra "om"))
theorem pad_holds {bs : List (Addr × Obj)} {va v : Value} {x b : Int} (ha : Holds w bs (fun h => FracAt h va x b)) (hb : 0 < b) (c : (v = va ∧ 0 ≤ x ∧ x ≤ b) ∨ (v = .ref 92 ∧ x < 0) ∨ (v = .ref 93 ∧ b < x)) : Holds w bs (fun h => FracAt h v (max 0 (min x b)) b) :=
  fun h X hh => pad_base (ha h X hh) X hb c
theorem rl_Stops_3 : True := by
  k_with "call ref" => (k_here; (with_reducible show wpAny _ _ (call (Value.ref 214) _) _ _ _); k_dflt (refine' padded_spec ?cBzq ?cFzq ?cXzq ?cNzq ?cTzq ?ckzq ?cdzq ?cuzq ?p0zq ?p1zq ?p2zq ?_; (case cBzq => k_asm); (case cFzq => k_asm); (case cXzq => k_asm); (case cNzq => k_asm); (case cTzq => k_asm); (case ckzq => first | rfl | assumption); (case cdzq => k_extra "om"); (case cuzq => k_extra "om"); (case p0zq => (first | exact FracAt.keeps (by with_reducible assumption) (Fr.keep (by k_asm)) | exact frac_news (by k_asm) (by k_mem) | exact zero_at (Frag.In.keeps (by with_reducible assumption) (Fr.keep (by with_reducible assumption))) | exact one_at (Frag.In.keeps (by with_reducible assumption) (Fr.keep (by with_reducible assumption))) | assumption)); (case p1zq => k_extra "om"); (case p2zq => k_extra "om"); k_whole; intro v9 s9 S9 F9 N9 c9 f9; (clear f9); (have g9 := pad_base (by assumption) (by assumption) (by omega) c9); (have g8 := pad_holds (by assumption) (by omega) c9); (clear c9); (revert v9 s9 S9 F9 N9 g9 g8; intros); (try k_sweep)))
  k_with "k_ne" => (refine' ne_of_data ?knzq ?kazq ?kbzq ?kdzq; (case knzq => k_asm); (case kazq => k_mem); (case kbzq => k_mem); (case kdzq => (intro hq; cases hq; done)))
  trivial

theorem rl_Stops_4 : True := by
  k_with "call ref" => (k_here; (with_reducible show wpAny _ _ (call (Value.ref 246) _) _ _ _); k_dflt (refine' mkstop_spec ?cBzq ?cFzq ?cXzq ?cNzq ?cTzq ?ckzq ?cdzq ?cuzq  ?_; (case cBzq => k_asm); (case cFzq => k_asm); (case cXzq => k_asm); (case cNzq => k_asm); (case cTzq => k_asm); (case ckzq => first | rfl | assumption); (case cdzq => k_extra "om"); (case cuzq => k_extra "om");  k_whole; intro _ _ _ _ _ _ _ _ _ _; (try k_sweep)))
  trivial

theorem mkstops_spec {va : Value} {rows : List Row} {bs : List (Addr × Obj)} (zB : Below A₀ base outer h₀) (zF : Fr h₀ L s.heap m) (zX : (hd.heap_39 w.params).In h₀) (zN : News h₀ L s.heap news) (zT : Top p loose mean mg mb h₀) (zk : cs.kind = .function) (hd : dp + 8 < recursionLimit) (hu : un + 160 < cLine) (hbs : ∀ q ∈ bs, s.heap.get? q.1 = some q.2) (ha : RowsIn w bs va rows) (hr : ∀ x ∈ rows, x.ok ∧ -1 ≤ x.o ∧ x.o ≤ 9) (hn : rows.length ≤ 4)
    (ret : ∀ v own s', Holds w (own ++ bs) (fun h => StopsAt h v (ordF 0 rows)) → (∀ q ∈ own, s.heap.get? q.1 = none) → Sm s s' → Fr h₀ L s'.heap m → News h₀ L s'.heap (own ++ news) → Q v s') :
    wpAny (model prog w) (ktrTop dp un gd cn cs L a ccd cl outer) (call (.ref 293) [va]) Q E s := by
  obtain ⟨l, vs, rfl, il, hp⟩ := ha
  k_dflt (refine' makeM (binds := fun x => [(Str.ofString "self", .ref x), (Str.ofString "rows", .ref l)]) zB zF zX zN zT zk ?m1 ?m2 ?m3 ?k6 ?k7 ?k8 ?k9 ?kB ?c2 ?c3 ?c4 ?c5 ?_; (case m1 => k_is); (case m2 => k_is); (case m3 => k_is); (case k6 => k_is); (case k7 => k_is); (case k8 => k_extra "om"); (case k9 => intro _ _ hXX; first | exact BindsTo.of_eq rfl | exact binds_K hXX rfl (by k_is) rfl rfl rfl); (case c5 => decide); (case kB => intro _; exact locs rfl); (case c2 => exact rfl); (case c3 => exact rfl); (case c4 => exact rfl); k_whole; intro gg gL gs ix dx gS lx gG gF gN gB gX gT gA gE; (replace lx := ltN lx); (try dsimp only); (try k_fold))
  have hbg : ∀ q ∈ bs, gg.get? q.1 = some q.2 := fun q hq => gG _ _ (hbs q hq)
  have ilg := il gg gX hbg
  k_extra "S"
  have hN : ∃ lst es n, News gg gL _ [(lst, listOf #[] 0), (ix, instObj 293 dx), (dx, dictOf es n)] ∧ FsIn es [(Str.ofString "stops", .ref lst)] ∧ NoIn es [Str.ofString "last_colour", Str.ofString "colour", Str.ofString "mixed"] := ⟨_, _, _, by assumption, ⟨rfl, trivial⟩, ⟨rfl, rfl, rfl, trivial⟩⟩
  refine hideG fun Gzq kzq => ?_
  obtain ⟨lst, es, n, N2, ⟨hst, _⟩, hno⟩ := hN
  refine kzq ?_
  clear kzq Gzq
  refine wpAny_For ?_
  k_extra "S"
  have hlx : lst ≠ ix := ne_of_cls N2 (.head _) (.tail _ (.head _)) (by intro h; cases h)
  have hldx : lst ≠ dx := ne_of_cls N2 (.head _) (.tail _ (.tail _ (.head _))) (by intro h; exact absurd (Value.type.inj h) (by decide))
  rename Fr _ _ _ _ => F2
  refine for_list (l := l) (vs := vs) (pin := [(ix, instObj 293 dx), (dx, dictOf es n)]) (nw := [(lst, listOf #[] 0)]) rfl (isList_keeps ilg F2.keep) (.inl ⟨_, ilg.choose_spec.1⟩)
    (fun i m₁ nw => ∃ ys nD lv acc, nw = (lst, listOf ys.toArray nD) :: acc ∧ (∀ p ∈ acc, p.1 ≠ lst) ∧ m₁ (Str.ofString "self") = some (.ref ix) ∧ m₁ (Str.ofString "last") = some lv ∧ Holds w bs (fun h => FracAt h lv (lastO 0 (rows.take i)) 8) ∧ Paired (StopIn w bs acc) ys (ordF 0 (rows.take i)))
    F2 (fun q hq => N2 q (by simp only [List.cons_append, List.nil_append, List.mem_cons, List.not_mem_nil, or_false] at hq ⊢; grind)) ?_ ?_ ?_
  · refine ⟨[], 0, .ref 92, [], rfl, (fun _ h => nomatch h), rfl, rfl, fun h X _ => (zero_at X).eq (fr_eq (by k_extra "om") (by k_extra "om") (by simp [lastO])), ?_⟩
    simpa [ordF] using Paired.nil
  · intro I i v hlt hv m₁ nw₁ s1 oI hJ hne ⟨fI, hoI⟩ S1 F N
    refine hideG fun Gzq kzq => ?_
    obtain ⟨ys, nD, lv, acc, rfl, hacc, hm1, hm2, hlv, hys⟩ := hJ
    obtain ⟨x, hx, hxt⟩ := paired_get hp i v hv
    obtain ⟨a1, vo, vsd, ta, rfl, iaH, foH, shH⟩ := hxt
    refine kzq ?_
    clear kzq Gzq
    have ia := iaH gg gX hbg
    have fo := foH gg gX hbg
    have flv := hlv gg gX hbg
    have hmem : x ∈ rows := List.mem_of_getElem? hx
    refine hideG fun Gzq kzq => ?_
    obtain ⟨hxok, hx1, hx2⟩ := hr x hmem
    refine kzq ?_
    clear kzq Gzq
    have hb := lastO_bd 0 (rows.take i) (by k_extra "om")
    have htake : rows.take (i + 1) = rows.take i ++ [x] := by rw [List.take_add_one, hx]; rfl
    generalize hlo : lastO 0 (rows.take i) = lo at *
    k_extra "S"
    all_goals (
      rename_i ix9 dx9 es9 n9 s9 lx9 H9 S9 F9 N9
      have e1 : ix9 ≠ lst := ne_of_cls N9 (.head _) (show (lst, listOf ys.toArray nD) ∈ _ by k_mem) (by intro h; cases h)
      have e2 : dx9 ≠ lst := ne_of_cls N9 (.tail _ (.head _)) (show (lst, listOf ys.toArray nD) ∈ _ by k_mem) (by intro h; exact absurd (Value.type.inj h) (by decide))
      have e3 : I ≠ lst := Ne.symm (hne _ (.head _))
      have e4 : ix9 ≠ I := ne_of_data N9 (.head _) (.tail _ (.tail _ (.head _))) (by rw [hoI]; simp)
      have e5 : dx9 ≠ I := ne_of_data N9 (.tail _ (.head _)) (.tail _ (.tail _ (.head _))) (by rw [hoI]; simp)
      refine append_led (lst := lst) (ys := ys) (nD := nD) (l' := (ix9, instObj 246 dx9) :: (dx9, dictOf es9 n9) :: (I, oI) :: (ix, instObj 293 dx) :: (dx, dictOf es n) :: acc) F9 N9 (by k_mem) (all_cons ⟨by k_mem, e1⟩ (all_cons ⟨by k_mem, e2⟩ (all_cons ⟨by k_mem, e3⟩ (all_cons ⟨by k_mem, Ne.symm hlx⟩ (all_cons ⟨by k_mem, Ne.symm hldx⟩ fun p hp => ⟨by (repeat (first | assumption | refine' List.Mem.tail _ ?_ | refine' List.mem_append_right _ ?_)), hacc p hp⟩))))) ?_ ?_
      · have := hys.length
        rw [ordF_len, List.length_take] at this
        rw [sizeLine_eq]; (first | exact le_by (by assumption) (by assumption) (by rfl) | exact le_by2 (by assumption) (by assumption) (by rfl) | exact le_by3 (by assumption) (by assumption) (by assumption) (by rfl) | omega)
      · intro h5 n5 S5 F5 N5
        clear F9 N9
        k_extra "S"
        refine ForOn.mk _ ((lst, listOf (ys ++ [Value.ref ix9]).toArray n5) :: (ix9, instObj 246 dx9) :: (dx9, dictOf es9 n9) :: acc) _ (by k_extra "sm") (by assumption) (by assumption) (by k_mem) (all_cons (by k_mem) (all_cons (by k_mem) all_nil)) (all_cons (by k_mem) (all_cons (by k_mem) (all_cons (by k_mem) fun p hp => by (repeat (first | assumption | refine' List.Mem.tail _ ?_ | refine' List.mem_append_right _ ?_)))))
          (all_cons (Ne.symm e3) (all_cons e4 (all_cons e5 fun p hp => hne p (.tail _ hp)))) ?_
        · refine ⟨_, n5, _, _, rfl, all_cons e1 (all_cons e2 hacc), hm1, rfl, ?_, ?_⟩
          · rw [htake, lastO_snoc, hlo]
            first
              | (rw [show max lo (min 8 (max 0 x.o)) = lo by have := sgn_neg.mp (by assumption); omega]; exact hlv)
              | (rw [show max lo (min 8 (max 0 x.o)) = max 0 (min x.o 8) by
                  have : ¬ max 0 (min x.o 8) * 8 - lo * 8 < 0 := fun h => absurd (sgn_neg.mpr h) (by assumption)
                  omega]; assumption)
          · rw [htake, ordF_snoc, hlo]
            refine Paired.snoc (paired_mono (fun _ _ q => q.more fun p hp => .tail _ (.tail _ hp)) hys) ⟨ix9, dx9, es9, n9, _, vsd, ta, rfl, .head _, .tail _ (.head _), H9, ?_, shH⟩
            first
              | (show Holds w bs (fun h => FracAt h _ (max lo (min 8 (max 0 x.o))) 8); rw [show max lo (min 8 (max 0 x.o)) = lo by have := sgn_neg.mp (by assumption); omega]; exact hlv)
              | (show Holds w bs (fun h => FracAt h _ (max lo (min 8 (max 0 x.o))) 8); rw [show max lo (min 8 (max 0 x.o)) = max 0 (min x.o 8) by
                  have : ¬ max 0 (min x.o 8) * 8 - lo * 8 < 0 := fun h => absurd (sgn_neg.mpr h) (by assumption)
                  omega]; assumption))
  · intro m₁ nw₁ s1 hJ S1 F N
    refine hideG fun Gzq kzq => ?_
    obtain ⟨ys, nD, lv, acc, rfl, hacc, hm1, hm2, hlv, hys⟩ := hJ
    refine kzq ?_
    clear kzq Gzq
    rw [hp.length, List.take_length] at hys
    k_extra "S"
    (all_goals (try dsimp only)); (all_goals (try k_unfold)); (all_goals (try dsimp only))
    refine retM (F) N (fun kF kN => ⟨rfl, ret _ _ _ ?_ (fresh_of N gG) (by k_extra "sm") kF kN⟩)
    intro h2 X2 hh
    have ho : ∀ q ∈ [(ix, instObj 293 dx), (dx, dictOf es n)] ++ (lst, listOf ys.toArray nD) :: acc, h2.get? q.1 = some q.2 := fun q hq => hh q (List.mem_append_left _ hq)
    have hb2 : ∀ q ∈ bs, h2.get? q.1 = some q.2 := fun q hq => hh q (List.mem_append_right _ hq)
    refine ⟨lst, ys, ObjAt.make ho (by simp) (show (dx, dictOf es n) ∈ _ by simp) ⟨hst, trivial⟩ hno, ⟨_, ho (lst, listOf ys.toArray nD) (by simp), rfl, _, rfl⟩, ?_⟩
    exact paired_mono (fun _ _ q => q.at X2 (fun p hp => ho p (by simp [hp])) hb2) hys
end
end
end Mine

namespace Mine
section

theorem rl_Pool_2 : True := by
  k_with "call builtin:len" => (k_here; (with_reducible show wpAny _ _ (call (Value.builtin "len") _) _ _ _); k_dflt (refine' len_vs (isList_keeps (by assumption) (Fr.keep (by k_asm))) (by omega) ?_))
  k_with "subscriptTail" => (k_here; k_dflt (refine' item_list ?lzq ?azq ?bzq ?czq ?_ ?dzq; (case lzq => first | exact isList_keeps (by assumption) (Fr.keep (by k_asm)) | exact News.isList (by k_asm) (by k_mem)); (case azq => omega); (case bzq => omega); (case czq => first | assumption | rfl); (case dzq => with_unfolding_all rfl); k_whole))
  trivial
/-- a ledger, one of its entries taken out -/
inductive Split : List (Addr × Obj) → Addr → Obj → List (Addr × Obj) → Prop where
  | head {a : Addr} {o : Obj} {l : List (Addr × Obj)} : Split ((a, o) :: l) a o l
  | tail {a : Addr} {o : Obj} {q : Addr × Obj} {l r : List (Addr × Obj)} (h : Split l a o r) : Split (q :: l) a o (q :: r)
theorem Split.mem {l r : List (Addr × Obj)} {a : Addr} {o : Obj} (h : Split l a o r) : ∀ q ∈ (a, o) :: r, q ∈ l := by
  induction h with
  | head => exact fun q hq => hq
  | tail h ih =>
    intro q hq
    simp only [List.mem_cons] at hq ih ⊢
    rcases hq with h | h | h
    · exact .inr (ih _ (.inl h))
    · exact .inl h
    · exact .inr (ih _ (.inr h))
theorem Split.news {l r : List (Addr × Obj)} {a : Addr} {o : Obj} {h₀ h : Heap} {L : Addr} (x : Split l a o r) (N : News h₀ L h l) : News h₀ L h ([(a, o)] ++ r) := fun q hq => N q (x.mem q hq)
def Apart (src : Addr) (l : List (Addr × Obj)) : Prop := ∀ q ∈ l, q.1 ≠ src
theorem Apart.nil {src : Addr} : Apart src [] := fun _ h => nomatch h
theorem Apart.cons {src a : Addr} {o : Obj} {l : List (Addr × Obj)} (h : a ≠ src) (r : Apart src l) : Apart src ((a, o) :: l) := fun q hq => by
  rcases List.mem_cons.mp hq with rfl | hq
  · exact h
  · exact r q hq
theorem Apart.append {src : Addr} {l r : List (Addr × Obj)} (h : Apart src l) (k : Apart src r) : Apart src (l ++ r) := fun q hq => (List.mem_append.mp hq).elim (h q) (k q)
/-- no list of two ints -/
def NoSrc (o : Obj) : Prop := ∀ (x y : Int) (t u : Tok) (n : Nat), o ≠ listOf #[.int x t, .int y u] n
theorem Apart.of {src : Addr} {o : Obj} {x y : Int} {t u : Tok} {n : Nat} {l own : List (Addr × Obj)} {h₀ h : Heap} {L : Addr} (N : News h₀ L h l) (hs : (src, listOf #[.int x t, .int y u] n) ∈ l) (ho : ∀ q ∈ own, q ∈ l) (hn : ∀ q ∈ own, NoSrc q.2) : Apart src own := fun q hq he => by
  have e1 := (N _ (ho q hq)).1
  have e2 := (N _ hs).1
  rw [he] at e1
  rw [e2] at e1
  exact hn q hq _ _ _ _ _ (Option.some.inj e1).symm
section
variable {prog : Program} {w : World} {p : Program} {loose : List Str} {mean : ExcName → Option Value} {mg mb : Str → Option Value}
  {dp un : Nat} {gd : Option (List Code)} {cn : Str} {cs : Scope} {a : Addr} {ccd : Value} {cl : List (Str × Addr)} {outer : List Env} {A₀ : Around} {base h₀ : Heap} {L : Addr}
  {m : Str → Option Value} {news : List (Addr × Obj)} {s : Shared} {Q E : Value → Shared → Prop}
theorem pool_spec {sc : Addr} {vs : List Value} {ns : List Int} {t1 : Tok} (zB : Below A₀ base outer h₀) (zF : Fr h₀ L s.heap m) (zX : (hd.heap_39 w.params).In h₀) (zN : News h₀ L s.heap news) (zT : Top p loose mean mg mb h₀) (zk : cs.kind = .function) (hd : dp + 1 < recursionLimit) (hu : un + 20 < cLine) (hs : s.heap.IsList sc vs.toArray) (hi : IntsAre vs ns) (hlen : vs.length ≤ 63)
    (ret : ∀ r s0 s1 u1 u2 n s', 0 ≤ s0 → (0 ≤ s1 ∧ s1 < 2147483647) → Sm s s' → Fr h₀ L s'.heap m → News h₀ L s'.heap ((r, listOf #[.int s0 u1, .int s1 u2] n) :: news) → Q (.ref r) s') :
    wpAny (model prog w) (ktrTop dp un gd cn cs L a ccd cl outer) (call (.ref 473) [.ref sc, .int 0 t1]) Q E s := by
  k_dflt (refine' enterM (mu := []) (binds := [(Str.ofString "script", .ref sc), (Str.ofString "k", .int 0 t1)]) zB zF zX zN (fun _ _ h => nomatch h) zT zk ?k6 ?k7 ?k8 ?k9 ?kB ?c2 ?c3 ?c4 ?c5 ?_; (case k6 => k_is); (case k7 => k_is); (case k8 => k_extra "om"); (case k9 => first | exact BindsTo.of_eq rfl | exact binds_K (Frag.In.keeps zX zF.keep) rfl (by k_is) rfl rfl rfl); (case c5 => decide); (case kB => exact locs rfl); (case c2 => exact rfl); (case c3 => exact rfl); (case c4 => exact rfl); k_whole; intro gg gL gs gS gG gF gN gB gX gT gA gE; (try dsimp only); (try k_fold))
  have hs := isList_keeps hs fun b o e => gG b o e (fun h => nomatch h)
  k_extra "S"
  (all_goals (try dsimp only)); (all_goals (try k_unfold)); (all_goals (try dsimp only))
  (all_goals (try dsimp only)); (all_goals (try k_unfold)); (all_goals (try dsimp only))
  all_goals (
    refine retM (by assumption) (by assumption) (fun kF kN => ret _ _ _ _ _ _ _ ?_ ?_ (by k_extra "sm") kF (news_pick kN (by k_mem)))
    · refine Int.mul_nonneg ?_ ?_ <;> (split <;> omega)
    · exact ⟨Int.emod_nonneg _ (by decide), Int.emod_lt_of_pos _ (by decide)⟩)

theorem getD_bd (x y : Int) : -(2 ^ 62) < [x, y % 2147483647].getD (Int.toNat 1) 0 ∧ [x, y % 2147483647].getD (Int.toNat 1) 0 < 2 ^ 62 := by
  show -(2 ^ 62) < y % 2147483647 ∧ y % 2147483647 < 2 ^ 62
  omega
theorem rl_Pool_3 : True := by
  k_with "binaryOp Mult int int" => first | (refine' my_mulL ?qzq ?_; (case qzq => k_dflt k_extra "om"); k_whole) | (refine' my_mulR ?qzq ?_; (case qzq => k_dflt k_extra "om"); k_whole) | (refine' my_mulL (getD_bd _ _) ?_)
  trivial
/-- the law's source: what is drawn from, changed in place -/
theorem take_spec {src : Addr} {s0 s1 : Int} {u1 u2 : Tok} {n : Nat} {rest : List (Addr × Obj)} {top : Int} {t1 : Tok} (zB : Below A₀ base outer h₀) (zF : Fr h₀ L s.heap m) (zX : (hd.heap_39 w.params).In h₀) (zN : News h₀ L s.heap news) (zT : Top p loose mean mg mb h₀) (zk : cs.kind = .function) (hd : dp + 1 < recursionLimit) (hu : un + 20 < cLine) (hsp : Split news src (listOf #[.int s0 u1, .int s1 u2] n) rest) (hdis : Apart src rest) (h0 : 0 ≤ s0) (h1 : 0 ≤ s1 ∧ s1 < 2147483647) (htop : 0 < top ∧ top < 2 ^ 20)
    (ret : ∀ r u z0 z1 v1 v2 n' s', 0 ≤ z0 → (0 ≤ z1 ∧ z1 < 2147483647) → (0 ≤ r ∧ r < top) → Sm s s' → Fr h₀ L s'.heap m → News h₀ L s'.heap ((src, listOf #[.int z0 v1, .int z1 v2] n') :: rest) → Q (.int r u) s') :
    wpAny (model prog w) (ktrTop dp un gd cn cs L a ccd cl outer) (call (.ref 480) [.ref src, .int top t1]) Q E s := by
  k_dflt (refine' enterM (mu := [(src, listOf #[.int s0 u1, .int s1 u2] n)]) (binds := [(Str.ofString "source", .ref src), (Str.ofString "top", .int top t1)]) zB zF zX (Split.news hsp zN) (fun q hq hm => hdis q hq (List.mem_singleton.mp hm)) zT zk ?k6 ?k7 ?k8 ?k9 ?kB ?c2 ?c3 ?c4 ?c5 ?_; (case k6 => k_is); (case k7 => k_is); (case k8 => k_extra "om"); (case k9 => first | exact BindsTo.of_eq rfl | exact binds_K (Frag.In.keeps zX zF.keep) rfl (by k_is) rfl rfl rfl); (case c5 => decide); (case kB => exact locs rfl); (case c2 => exact rfl); (case c3 => exact rfl); (case c4 => exact rfl); k_whole; intro gg gL gs gS gG gF gN gB gX gT gA gE; (try dsimp only); (try k_fold))
  k_extra "S"
  (all_goals (try dsimp only)); (all_goals (try k_unfold)); (all_goals (try dsimp only))
  (all_goals (try dsimp only)); (all_goals (try k_unfold)); (all_goals (try dsimp only))
  rotate_left 1
  · refine retM (by assumption) (by assumption) (fun kF kN => ret _ _ _ _ _ _ _ _ h0 ?_ ?_ (by k_extra "sm") kF kN)
    · exact ⟨Int.emod_nonneg _ (by decide), Int.emod_lt_of_pos _ (by decide)⟩
    · exact ⟨Int.emod_nonneg _ (by k_extra "om"), Int.emod_lt_of_pos _ htop.1⟩
  · refine retM (by assumption) (by assumption) (fun kF kN => ret _ _ _ _ _ _ _ _ ?_ h1 ?_ (by k_extra "sm") kF kN)
    · exact Int.ediv_nonneg h0 (by k_extra "om")
    · exact ⟨Int.emod_nonneg _ (by k_extra "om"), Int.emod_lt_of_pos _ htop.1⟩

theorem rl_Pool_4 : True := by
  k_with "call ref" => (k_here; (with_reducible show wpAny _ _ (call (Value.ref 480) _) _ _ _); k_dflt (refine' take_spec ?cBzq ?cFzq ?cXzq ?cNzq ?cTzq ?ckzq ?cdzq ?cuzq ?p0zq ?p1zq ?p2zq ?p3zq ?p4zq ?_; (case cBzq => k_asm); (case cFzq => k_asm); (case cXzq => k_asm); (case cNzq => k_asm); (case cTzq => k_asm); (case ckzq => first | rfl | assumption); (case cdzq => k_extra "om"); (case cuzq => k_extra "om"); (case p0zq => (first | exact Split.head | (apply Split.tail; first | exact Split.head | (apply Split.tail; first | exact Split.head | (apply Split.tail; first | exact Split.head | (repeat (first | exact Split.head | apply Split.tail))))))); (case p1zq => (repeat' (first | exact Apart.nil | assumption | refine Apart.append ?_ ?_ | refine Apart.cons ?_ ?_ | exact ne_of_cls (by k_asm) (by k_mem) (by k_mem) (by intro hq; exact absurd (Value.type.inj hq) (by decide)) | exact ne_of_data (by k_asm) (by k_mem) (by k_mem) (by intro hq; cases hq)))); (case p2zq => assumption); (case p3zq => assumption); (case p4zq => k_extra "om"); k_whole; intro _ _ _ _ _ _ _ _ _ _ _ _ _ _; (try k_sweep)))
  trivial
theorem law_one_spec {src : Addr} {s0 s1 : Int} {u1 u2 : Tok} {n : Nat} {rest : List (Addr × Obj)} {things : Addr} {vs : List Value} (zB : Below A₀ base outer h₀) (zF : Fr h₀ L s.heap m) (zX : (hd.heap_39 w.params).In h₀) (zN : News h₀ L s.heap news) (zT : Top p loose mean mg mb h₀) (zk : cs.kind = .function) (hd : dp + 2 < recursionLimit) (hu : un + 40 < cLine) (hsp : Split news src (listOf #[.int s0 u1, .int s1 u2] n) rest) (hdis : Apart src rest) (h0 : 0 ≤ s0) (h1 : 0 ≤ s1 ∧ s1 < 2147483647) (hl : s.heap.IsList things vs.toArray) (hne : things ≠ src) (hlen : 0 < vs.length ∧ vs.length < 2 ^ 20)
    (ret : ∀ x z0 z1 v1 v2 n' s', 0 ≤ z0 → (0 ≤ z1 ∧ z1 < 2147483647) → x ∈ vs → Sm s s' → Fr h₀ L s'.heap m → News h₀ L s'.heap ((src, listOf #[.int z0 v1, .int z1 v2] n') :: rest) → Q x s') :
    wpAny (model prog w) (ktrTop dp un gd cn cs L a ccd cl outer) (call (.ref 487) [.ref src, .ref things]) Q E s := by
  k_dflt (refine' enterM (mu := [(src, listOf #[.int s0 u1, .int s1 u2] n)]) (binds := [(Str.ofString "source", .ref src), (Str.ofString "things", .ref things)]) zB zF zX (Split.news hsp zN) (fun q hq hm => hdis q hq (List.mem_singleton.mp hm)) zT zk ?k6 ?k7 ?k8 ?k9 ?kB ?c2 ?c3 ?c4 ?c5 ?_; (case k6 => k_is); (case k7 => k_is); (case k8 => k_extra "om"); (case k9 => first | exact BindsTo.of_eq rfl | exact binds_K (Frag.In.keeps zX zF.keep) rfl (by k_is) rfl rfl rfl); (case c5 => decide); (case kB => exact locs rfl); (case c2 => exact rfl); (case c3 => exact rfl); (case c4 => exact rfl); k_whole; intro gg gL gs gS gG gF gN gB gX gT gA gE; (try dsimp only); (try k_fold))
  have hl : gg.IsList things vs.toArray := let ⟨o, ho, r⟩ := hl; ⟨o, gG _ _ ho (by simpa using hne), r⟩
  k_extra "S"
  rename_i r9 u9 z09 z19 v19 v29 n9 s9 b91 b92 b93 S9 F9 N9
  have hlt : r9.toNat < vs.length := by k_extra "om"
  k_dflt (refine' item_list (isList_keeps hl F9.keep) (by k_extra "om") (by k_extra "om") (List.getElem?_eq_getElem hlt) ?_)
  (all_goals (try dsimp only)); (all_goals (try k_unfold)); (all_goals (try dsimp only))
  exact retM (F9) N9 (fun kF kN => ret _ _ _ _ _ _ _ b91 b92 (List.getElem_mem hlt) (by k_extra "sm") kF kN)
theorem rl_Pool_5 : True := by
  k_with "call ref" => (k_here; (with_reducible show wpAny _ _ (call (Value.ref 487) _) _ _ _); k_dflt (refine' law_one_spec ?cBzq ?cFzq ?cXzq ?cNzq ?cTzq ?ckzq ?cdzq ?cuzq ?p0zq ?p1zq ?p2zq ?p3zq ?p4zq ?p5zq ?p6zq ?_; (case cBzq => k_asm); (case cFzq => k_asm); (case cXzq => k_asm); (case cNzq => k_asm); (case cTzq => k_asm); (case ckzq => first | rfl | assumption); (case cdzq => k_extra "om"); (case cuzq => k_extra "om"); (case p0zq => (first | exact Split.head | (apply Split.tail; first | exact Split.head | (apply Split.tail; first | exact Split.head | (apply Split.tail; first | exact Split.head | (repeat (first | exact Split.head | apply Split.tail))))))); (case p1zq => (repeat' (first | exact Apart.nil | assumption | refine Apart.append ?_ ?_ | refine Apart.cons ?_ ?_ | exact ne_of_cls (by k_asm) (by k_mem) (by k_mem) (by intro hq; exact absurd (Value.type.inj hq) (by decide)) | exact ne_of_data (by k_asm) (by k_mem) (by k_mem) (by intro hq; cases hq)))); (case p2zq => assumption); (case p3zq => assumption); (case p4zq => (exact News.isList (by k_asm) (by k_mem))); (case p5zq => (exact ne_of_data (by k_asm) (by k_mem) (by k_mem) (by intro hq; cases hq))); (case p6zq => (constructor <;> (simp only [List.length_cons, List.length_nil]; omega))); k_whole; intro _ _ _ _ _ _ _ _ _ _ _ _ _; (try k_sweep)))
  trivial
end
end
end Mine

namespace Mine
section
theorem rl_Mix_1 : True := by
  k_with "binaryOp Mult int int" => first | (refine' my_mulL ?qzq ?_; (case qzq => k_dflt k_extra "om"); k_whole) | (refine' my_mulR ?qzq ?_; (case qzq => k_dflt k_extra "om"); k_whole)
  trivial


theorem rl_Mix_3 : True := by
  k_with "compareOp Eq ref ref" => (k_here; k_dflt (refine' eq_nil (isList_keeps (by assumption) (Fr.keep (by k_asm))) (News.isList (by k_asm) (by k_mem)) (by (first | exact units_lim (by with_reducible assumption) (by rfl) | ktr_units)) ?_))
  k_with "subscriptTail" => (k_here; (with_reducible show wpAny _ _ (subscriptTail _ _ (Value.ref _) (Value.int (-1) _)) _ _ _); k_dflt (refine' item_last (isList_keeps (by assumption) (Fr.keep (by k_asm))) (by assumption) ?_))
  k_with "k_ne" => (refine' ne_of_data ?knzq ?kazq ?kbzq ?kdzq; (case knzq => k_asm); (case kazq => k_mem); (case kbzq => k_mem); (case kdzq => (intro hq; have hz := hq.trans (by assumption); cases hz)))
  k_with "eval Name" => (k_here; k_inBlock; k_dflt (first | (refine' PyProof.Rows.ldVarK ?nzq ?vzq ?_ ?azq ?bzq ?czq; (case azq => rfl); (case bzq => rfl); (case czq => decide); (case nzq => first | assumption | exact ns_led (by assumption) (by assumption) (by k_mem) (by k_asm) (by k_mem)); (case vzq => first | rfl | assumption); k_whole) | (refine' PyProof.Rows.ldCellK ?czq ?vzq ?_ ?azq ?bzq ?dzq ?ezq; (case azq => rfl); (case bzq => rfl); (case dzq => decide); (case ezq => decide); (case czq => rfl); (case vzq => exact cell_led (by k_asm) (by k_mem) (by assumption)); k_whole)))
  trivial

theorem rl_Mix_4 : True := by
  k_with "subscriptTail Name Constant ref int" => (k_here; k_dflt (refine' item_list ?lzq ?azq ?bzq ?czq ?_ ?dzq; (case lzq => first | exact isList_keeps (by assumption) (Fr.keep (by k_asm)) | exact News.isList (by k_asm) (by k_mem)); (case azq => decide); (case bzq => decide); (case czq => rfl); (case dzq => with_unfolding_all rfl); k_whole))
  trivial
theorem FracAt.isRef {h : Heap} {v : Value} {A B : Int} (x : FracAt h v A B) : ∃ a, v = .ref a := let ⟨a, _, _, e, _⟩ := x; ⟨a, e⟩
theorem ShadeAt.isRef {h : Heap} {v : Value} {a b c : Int} (x : ShadeAt h v a b c) : ∃ a, v = .ref a := let ⟨a, _, _, _, e, _⟩ := x; ⟨a, e⟩
theorem ShadeAt.gsub {h g : Heap} {v : Value} {a b c : Int} (x : ShadeAt h v a b c) (G : GSub h g ([] : List Addr)) : ShadeAt g v a b c := x.keeps fun b o e => G b o e (fun h => nomatch h)
section
variable {prog : Program} {w : World} {p : Program} {loose : List Str} {mean : ExcName → Option Value} {mg mb : Str → Option Value}
  {dp un : Nat} {gd : Option (List Code)} {cn : Str} {cs : Scope} {a : Addr} {ccd : Value} {cl : List (Str × Addr)} {outer : List Env} {A₀ : Around} {base h₀ : Heap} {L : Addr}
  {m : Str → Option Value} {news : List (Addr × Obj)} {s : Shared} {Q E : Value → Shared → Prop}
theorem rl_Mix_5 : True := by
  k_with "call ref" => (k_here; (with_reducible show wpAny _ _ (call (Value.ref 35) _) _ _ _); k_dflt (refine' premultiplied_spec ?cBzq ?cFzq ?cXzq ?cNzq ?cTzq ?ckzq ?cdzq ?cuzq ?p0zq ?p1zq ?p2zq ?p3zq ?p4zq ?_; (case cBzq => k_asm); (case cFzq => k_asm); (case cXzq => k_asm); (case cNzq => k_asm); (case cTzq => k_asm); (case ckzq => first | rfl | assumption); (case cdzq => k_extra "om"); (case cuzq => k_extra "om"); (case p0zq => (first | exact ShadeAt.keeps (by assumption) (Fr.keep (by k_asm)) | exact ⟨_, _, _, _, rfl, News.isTup (by k_asm) (by k_mem)⟩)); (case p1zq => k_extra "om"); (case p2zq => k_extra "om"); (case p3zq => k_extra "om"); (case p4zq => k_extra "om"); k_whole; intro _ _ _ _ _ _ _ _ _; (try k_sweep)))
  trivial

theorem last_colour_spec {v : Value} {rows : List Row} {x : Row} (zB : Below A₀ base outer h₀) (zF : Fr h₀ L s.heap m) (zX : (hd.heap_39 w.params).In h₀) (zN : News h₀ L s.heap news) (zT : Top p loose mean mg mb h₀) (zk : cs.kind = .function) (hd : dp + 4 < recursionLimit) (hu : un + 80 < cLine) (hv : StopsAt s.heap v rows) (hx : rows.getLast? = some x) (hok : x.ok)
    (ret : ∀ y t1 t2 t3 t4 s', Sm s s' → Fr h₀ L s'.heap m → News h₀ L s'.heap ((y, fourO (wgt x.r x.al) (wgt x.g x.al) (wgt x.b x.al) x.al t1 t2 t3 t4) :: news) → Q (.ref y) s') :
    wpAny (model prog w) (ktrTop dp un gd cn cs L a ccd cl outer) (call (.ref 278) [v]) Q E s := by
  obtain ⟨l, vs, ⟨ix, dx, es, n, rfl, I, ⟨f1, _⟩, hno⟩, il, hp⟩ := hv
  have hlast : ∃ y, vs.getLast? = some y ∧ StopAt s.heap y x := by
    rw [List.getLast?_eq_getElem?] at hx ⊢
    rw [← hp.length] at hx
    exact paired_get2 hp _ _ hx
  obtain ⟨y, hy, vo, vsd, ta, ⟨iy, dy, ey, ny, rfl, Iy, ⟨g1, g2, g3, _⟩, gno⟩, fo, sh⟩ := hlast
  have hemp : vs.isEmpty = false := by cases vs with | nil => simp at hy | cons => rfl
  obtain ⟨o1, o2, o3, o4⟩ := hok
  obtain ⟨sa, sh⟩ : ∃ sa, vsd = .ref sa ∧ ShadeAt s.heap vsd x.r x.g x.b := by obtain ⟨sa, _, _, _, e, _⟩ := id sh; exact ⟨sa, e, sh⟩
  obtain ⟨rfl, sh⟩ := sh
  k_dflt (refine' enterM (mu := []) (binds := [(Str.ofString "self", .ref ix)]) zB zF zX zN (fun _ _ h => nomatch h) zT zk ?k6 ?k7 ?k8 ?k9 ?kB ?c2 ?c3 ?c4 ?c5 ?_; (case k6 => k_is); (case k7 => k_is); (case k8 => k_extra "om"); (case k9 => first | exact BindsTo.of_eq rfl | exact binds_K (Frag.In.keeps zX zF.keep) rfl (by k_is) rfl rfl rfl); (case c5 => decide); (case kB => exact locs rfl); (case c2 => exact rfl); (case c3 => exact rfl); (case c4 => exact rfl); k_whole; intro gg gL gs gS gG gF gN gB gX gT gA gE; (try dsimp only); (try k_fold))
  have I := inst_keeps I fun b o e => gG b o e (fun h => nomatch h)
  have Iy := inst_keeps Iy fun b o e => gG b o e (fun h => nomatch h)
  have il := isList_keeps il fun b o e => gG b o e (fun h => nomatch h)
  have sh := sh.gsub gG
  clear hp fo
  k_extra "S"
  (all_goals (try dsimp only)); (all_goals (try k_unfold)); (all_goals (try dsimp only))
  exact retM (by assumption) (by assumption) (fun kF kN => ret _ _ _ _ _ _ (by k_extra "sm") kF (news_pick kN (by k_mem)))

theorem rl_Mix_6 : True := by
  k_with "call ref" => (k_here; (with_reducible show wpAny _ _ (call (Value.ref 243) _) _ _ _); k_dflt (refine' parts_spec ?cBzq ?cFzq ?cXzq ?cNzq ?cTzq ?ckzq ?cdzq ?cuzq ?p0zq ?p1zq ?_; (case cBzq => k_asm); (case cFzq => k_asm); (case cXzq => k_asm); (case cNzq => k_asm); (case cTzq => k_asm); (case ckzq => first | rfl | assumption); (case cdzq => k_extra "om"); (case cuzq => k_extra "om"); (case p0zq => (exact ⟨_, _, _, _, rfl, inst_keeps (by assumption) (Fr.keep (by k_asm)), ⟨by assumption, by assumption, by assumption, trivial⟩, ⟨by assumption, trivial⟩⟩)); (case p1zq => (exact ShadeAt.keeps (by assumption) (Fr.keep (by k_asm)))); k_whole; intro _ _ _ _ _ _ _ _ _; (try k_sweep)))
  k_with "call ref" => (k_here; (with_reducible show wpAny _ _ (call (Value.ref 257) _) _ _ _); k_dflt (refine' between_parts_spec ?cBzq ?cFzq ?cXzq ?cNzq ?cTzq ?ckzq ?cdzq ?cuzq ?p0zq ?p1zq ?p2zq ?p3zq ?p4zq ?_; (case cBzq => k_asm); (case cFzq => k_asm); (case cXzq => k_asm); (case cNzq => k_asm); (case cTzq => k_asm); (case ckzq => first | rfl | assumption); (case cdzq => k_extra "om"); (case cuzq => k_extra "om"); (case p0zq => (first | exact FracAt.keeps (by with_reducible assumption) (Fr.keep (by k_asm)) | exact frac_news (by k_asm) (by k_mem) | exact zero_at (Frag.In.keeps (by with_reducible assumption) (Fr.keep (by with_reducible assumption))) | exact one_at (Frag.In.keeps (by with_reducible assumption) (Fr.keep (by with_reducible assumption))) | assumption)); (case p1zq => k_extra "om"); (case p2zq => k_extra "om"); (case p3zq => k_extra "om"); (case p4zq => k_extra "om"); k_whole; intro _ _ _ _ _; (try k_sweep)))
  k_with "call ref" => (k_here; (with_reducible show wpAny _ _ (call (Value.ref 136) _) _ _ _); k_dflt (refine' divided_spec ?cBzq ?cFzq ?cXzq ?cNzq ?cTzq ?ckzq ?cdzq ?cuzq ?p0zq ?p1zq ?p2zq ?p3zq ?p4zq ?p5zq ?p6zq ?_; (case cBzq => k_asm); (case cFzq => k_asm); (case cXzq => k_asm); (case cNzq => k_asm); (case cTzq => k_asm); (case ckzq => first | rfl | assumption); (case cdzq => k_extra "om"); (case cuzq => k_extra "om"); (case p0zq => (first | exact FracAt.keeps (by with_reducible assumption) (Fr.keep (by k_asm)) | exact frac_news (by k_asm) (by k_mem) | exact zero_at (Frag.In.keeps (by with_reducible assumption) (Fr.keep (by with_reducible assumption))) | exact one_at (Frag.In.keeps (by with_reducible assumption) (Fr.keep (by with_reducible assumption))) | assumption)); (case p1zq => (first | exact FracAt.keeps (by with_reducible assumption) (Fr.keep (by k_asm)) | exact frac_news (by k_asm) (by k_mem) | exact zero_at (Frag.In.keeps (by with_reducible assumption) (Fr.keep (by with_reducible assumption))) | exact one_at (Frag.In.keeps (by with_reducible assumption) (Fr.keep (by with_reducible assumption))) | assumption)); (case p2zq => k_extra "om"); (case p3zq => k_extra "om"); (case p4zq => k_extra "om"); (case p5zq => k_extra "om"); (case p6zq => k_extra "om"); k_whole; intro _ _ _ _ _ _ _; (try k_sweep)))
  trivial

/-- the parts of a row, by number -/
def Row.part (x : Row) : Nat → Int
  | 0 => x.r
  | 1 => x.g
  | 2 => x.b
  | _ => x.al
theorem part_bd {x : Row} (h : x.ok) : ∀ i, 0 ≤ x.part i ∧ x.part i ≤ 255
  | 0 => h.1
  | 1 => h.2.1
  | 2 => h.2.2.1
  | _ + 3 => h.2.2.2
theorem item_row {prog : Program} {w : World} {A : Around} {E Q : Value → Shared → Prop} {s : Shared} {value slice : Expr} {a : Addr} {x : Row} {t0 t1 t2 t3 u : Tok} {i : Nat} (h : IsTup s.heap a #[.int x.r t0, .int x.g t1, .int x.b t2, .int x.al t3]) (hi : i < 4)
    (k : ∀ t, Q (.int (x.part i) t) s) (hs : ∀ k u, subscripted slice false (.ref a) (.int k u) = operate [.ref a, .int k u] (getItem (.ref a) (.int k u)) := by intro _ _; with_unfolding_all rfl) :
    wpAny (model prog w) A (subscriptTail value slice (.ref a) (.int (0 + (i : Int) * 1) u)) Q E s := by
  rcases four_c hi with rfl | rfl | rfl | rfl
  · exact item_tupleT h (j := 0) (by decide) (by decide) rfl rfl (k t0) (hs _ _)
  · exact item_tupleT h (j := 1) (by decide) (by decide) rfl rfl (k t1) (hs _ _)
  · exact item_tupleT h (j := 2) (by decide) (by decide) rfl rfl (k t2) (hs _ _)
  · exact item_tupleT h (j := 3) (by decide) (by decide) rfl rfl (k t3) (hs _ _)
theorem four_get {f : Nat → Int} {p0 p1 p2 p3 : Tok} {i : Nat} {v : Value} (h : [Value.int (f 0) p0, .int (f 1) p1, .int (f 2) p2, .int (f 3) p3][i]? = some v) : i < 4 ∧ ∃ t, v = .int (f i) t := by
  match i, h with
  | 0, h => exact ⟨by decide, _, (Option.some.inj h).symm⟩
  | 1, h => exact ⟨by decide, _, (Option.some.inj h).symm⟩
  | 2, h => exact ⟨by decide, _, (Option.some.inj h).symm⟩
  | 3, h => exact ⟨by decide, _, (Option.some.inj h).symm⟩
  | k + 4, h => exact nomatch h
def mixAt (x y : Row) (T b : Int) (i : Nat) : Int := rnd (x.part i) (y.part i) (8 * T - x.o * b) ((y.o - x.o) * b)

theorem rnd_bd {x y W D : Int} (h1 : 0 ≤ x ∧ x ≤ 255) (h2 : 0 ≤ y ∧ y ≤ 255) (hD : 0 < D) (hW : 0 ≤ W ∧ W ≤ D) : 0 ≤ rnd x y W D ∧ rnd x y W D ≤ 255 := by
  have h := rnd_num h1 h2 hW
  unfold rnd
  refine ⟨Int.ediv_nonneg (by k_extra "om") (by k_extra "om"), ?_⟩
  have : (2 * (x * D + (y - x) * W) + D) / (2 * D) < 256 := Int.ediv_lt_of_lt_mul (by k_extra "om") (by k_extra "om")
  omega
theorem rl_Mix_7 : True := by
  k_with "subscriptTail Name Name ref int" => (k_here; k_dflt (refine' item_row ?tzq ?izq ?_; (case tzq => (first | exact IsTup.keeps (by with_reducible assumption) (Fr.keep (by k_asm)) | exact News.isTup (by k_asm) (by k_mem) | exact tupK (Frag.In.keeps (by with_reducible assumption) (Fr.keep (by with_reducible assumption))) (by k_is))); (case izq => assumption); k_whole); intro _)
  trivial
theorem mixed_spec {self v1 v2 va : Value} {x y : Row} {T b : Int} (zB : Below A₀ base outer h₀) (zF : Fr h₀ L s.heap m) (zX : (hd.heap_39 w.params).In h₀) (zN : News h₀ L s.heap news) (zT : Top p loose mean mg mb h₀) (zk : cs.kind = .function) (hd : dp + 8 < recursionLimit) (hu : un + 160 < cLine) (ha : StopAt s.heap v1 x) (hb : StopAt s.heap v2 y) (ht : FracAt s.heap va T b) (hx : x.ok) (hy : y.ok) (hxo : 0 ≤ x.o ∧ x.o ≤ 8) (hyo : 0 ≤ y.o ∧ y.o ≤ 8)
    (hbb : 0 < b ∧ b < 2 ^ 6) (hT : -(2 ^ 10) < T ∧ T < 2 ^ 10) (h1 : x.o * b ≤ 8 * T) (h2 : 8 * T < y.o * b)
    (ret : ∀ z t1 t2 t3 t4 s', Sm s s' → Fr h₀ L s'.heap m → News h₀ L s'.heap ((z, fourO (wgt (mixAt x y T b 0) (mixAt x y T b 3)) (wgt (mixAt x y T b 1) (mixAt x y T b 3)) (wgt (mixAt x y T b 2) (mixAt x y T b 3)) (mixAt x y T b 3) t1 t2 t3 t4) :: news) → Q (.ref z) s') :
    wpAny (model prog w) (ktrTop dp un gd cn cs L a ccd cl outer) (call (.ref 290) [self, v1, v2, va]) Q E s := by
  obtain ⟨vo1, vs1, ta1, ⟨i1, d1, e1, n1, rfl, I1, ⟨f1, f2, f3, _⟩, ⟨p1, _⟩⟩, fo1, sh1⟩ := ha
  obtain ⟨vo2, vs2, ta2, ⟨i2, d2, e2, n2, rfl, I2, ⟨g1, g2, g3, _⟩, ⟨p2, _⟩⟩, fo2, sh2⟩ := hb
  have hlt : x.o < y.o := by
    rcases Int.lt_or_le x.o y.o with h | h
    · exact h
    · have := Int.mul_le_mul_of_nonneg_right h (Int.le_of_lt hbb.1)
      omega
  k_dflt (refine' enterC (mu := []) (binds := [(Str.ofString "self", self), (Str.ofString "one", .ref i1), (Str.ofString "other", .ref i2), (Str.ofString "t", va)]) zB zF zX zN (fun _ _ h => nomatch h) zT zk ?k6 ?k7 ?k8 ?k9 ?kB ?kD ?c2 ?c3 ?c4 ?_; (case k6 => k_is); (case k7 => k_is); (case k8 => k_extra "om"); (case k9 => first | exact BindsTo.of_eq rfl | exact binds_K (Frag.In.keeps zX zF.keep) rfl (by k_is) rfl rfl rfl); (case kB => exact rfl); (case kD => decide +kernel); (case c2 => exact rfl); (case c3 => exact rfl); (case c4 => exact rfl); k_whole; intro gg gL gs gcells gS gG gF gN gY gl gB gX gT gA; (try dsimp only); (try k_fold))
  k_cells gY
  refine hideG fun Gzq kzq => ?_
  obtain ⟨oa1, rfl⟩ := fo1.isRef
  obtain ⟨oa2, rfl⟩ := fo2.isRef
  obtain ⟨sa1, rfl⟩ := sh1.isRef
  obtain ⟨sa2, rfl⟩ := sh2.isRef
  obtain ⟨ta, rfl⟩ := ht.isRef
  refine kzq ?_
  clear kzq Gzq
  have I1 := inst_keeps I1 fun b o e => gG b o e (fun h => nomatch h)
  have I2 := inst_keeps I2 fun b o e => gG b o e (fun h => nomatch h)
  have fo1 := fo1.gsub gG
  have fo2 := fo2.gsub gG
  have sh1 := sh1.gsub gG
  have sh2 := sh2.gsub gG
  have ht := ht.gsub gG
  have q0 : 0 ≤ x.o * b := Int.mul_nonneg hxo.1 (by k_extra "om")
  simp only [List.append_nil] at gN
  k_extra "S"
  rename News gg _ _ _ => N1
  have e6 := fun u1 u2 => frO_of (share_eq (x1 := x.o) (x2 := y.o) (b := b) (T := T) hbb.1 hlt) u1 u2
  rw [e6] at N1
  refine hideG fun Gzq kzq => ?_
  obtain ⟨xa, ya, sa, o1, o2, o3, z1, z2, z3, z4, z5, z6, z7, z8, z9, zz, N2, hc1, hc2, hc3⟩ : ∃ xa ya sa o1 o2 o3 z1 z2 z3 z4 z5 z6 z7 z8 z9 zz, News gg gL _ [(ya, fourO y.r y.g y.b y.al z1 z2 z3 z4), (xa, fourO x.r x.g x.b x.al z5 z6 z7 z8), (sa, frO (8 * T - x.o * b) ((y.o - x.o) * b) z9 zz), (gL + 1 + 1 + 1, o1), (gL + 1 + 1, o2), (gL + 1, o3)] ∧
      o1.data = Data.cell (some (Value.ref ya)) ∧ o2.data = Data.cell (some (Value.ref xa)) ∧ o3.data = Data.cell (some (Value.ref sa)) :=
    ⟨_, _, _, _, _, _, _, _, _, _, _, _, _, _, _, _, fun q hq => N1 q (by simp only [List.mem_cons, List.not_mem_nil, or_false] at hq; rcases hq with rfl | rfl | rfl | rfl | rfl | rfl <;> k_mem), by assumption, by assumption, by assumption⟩
  refine kzq ?_
  clear kzq Gzq
  clear N1
  (try k_unmd); k_fold
  refine comp_assign (by with_unfolding_all rfl) rfl rfl (by decide) ?_
  k_extra "S"
  rename IsRange _ _ _ _ _ _ _ _ => hR
  rename Fr _ _ _ _ => F3
  rename News _ _ _ _ => N3
  refine hideG fun Gzq kzq => ?_
  obtain ⟨⟨x1, x2⟩, ⟨x3, x4⟩, ⟨x5, x6⟩, ⟨x7, x8⟩⟩ := hx
  obtain ⟨⟨y1, y2⟩, ⟨y3, y4⟩, ⟨y5, y6⟩, ⟨y7, y8⟩⟩ := hy
  refine kzq ?_
  clear kzq Gzq
  have q3 : (y.o - x.o) * b = y.o * b - x.o * b := Int.sub_mul _ _ _
  have q4 := Int.mul_pos (a := y.o - x.o) (b := b) (by k_extra "om") hbb.1
  have q5 := mul_bd (x := y.o - x.o) (y := b) (a := 9) (b := 2 ^ 6) (by k_extra "om") (by k_extra "om")
  refine comp_range (n := 4) (pin := [(ya, fourO y.r y.g y.b y.al z1 z2 z3 z4), (xa, fourO x.r x.g x.b x.al z5 z6 z7 z8), (sa, frO (8 * T - x.o * b) ((y.o - x.o) * b) z9 zz), (gL + 1 + 1 + 1, o1), (gL + 1 + 1, o2), (gL + 1, o3)]) (nw := []) rfl hR (by decide) (by decide) (by decide) rfl
    (fun i ys nw => nw = [] ∧ ys.length = i ∧ i ≤ 4 ∧ ∀ j, j < i → ∃ t, ys[j]? = some (.int (mixAt x y T b j) t)) F3 (by rw [List.append_nil]; exact N3) ⟨rfl, rfl, by k_extra "om", fun j hj => absurd hj (by k_extra "om")⟩ (by rintro i ys nw ⟨_, h, h', _⟩; rw [sizeLine_eq]; (first | exact le_by (by assumption) (by assumption) (by rfl) | exact le_by2 (by assumption) (by assumption) (by rfl) | exact le_by3 (by assumption) (by assumption) (by assumption) (by rfl) | omega)) ?_ ?_
  · intro D C I i tv hlt' hID hDC hi ys nw₁ s1 oI oC oD mC hJ hne hoD hoI S1 F N hC
    refine hideG fun Gzq kzq => ?_
    obtain ⟨rfl, hlen, hi4, hys⟩ := hJ
    refine kzq ?_
    clear kzq Gzq
    clear F3 N3 hR
    rw [List.append_nil] at hlt'
    refine assign_comp rfl rfl F N (Nat.ne_of_lt hDC) ?_ hC (fun h2 oC2 S2 F2 N2' hC2 => ?_)
    · intro p hp
      rcases List.mem_cons.mp hp with rfl | hp
      · exact Nat.ne_of_lt (Nat.lt_trans hID hDC)
      · rw [List.append_nil] at hp
        exact Nat.ne_of_lt (Nat.lt_trans (hlt' p hp) (Nat.lt_trans hID hDC))
    refine wpAny_tests_nil ?_
    simp only [if_true]
    clear F N
    have hO : h2.heap.get? C = some oC2 := (N2' _ (.tail _ (.head _))).1
    have px := part_bd (x := x) ⟨⟨x1, x2⟩, ⟨x3, x4⟩, ⟨x5, x6⟩, ⟨x7, x8⟩⟩ i
    have py := part_bd (x := y) ⟨⟨y1, y2⟩, ⟨y3, y4⟩, ⟨y5, y6⟩, ⟨y7, y8⟩⟩ i
    k_extra "S"
    all_goals (
      rename News gg _ _ _ => N9
      refine comp_end hC2 hO (by k_extra "sm") (by assumption) N9 ⟨rfl, ?_, ?_, ?_⟩
      · rw [List.length_append, hlen]; rfl
      · omega
      · refine snoc_ints hlen hys ?_; rfl)
  · intro D C ys nw₁ s1 oC mC nD hDC hr hJ S1 F N hC
    refine hideG fun Gzq kzq => ?_
    obtain ⟨rfl, hlen, _, hys⟩ := hJ
    refine kzq ?_
    clear kzq Gzq
    clear F3 N3 hR
    refine done_assign (L := gL) ?z1 ?z2 ?z3 hDC hr F N hC (fun h2 S3 F2 N2' => ?z4)
    case z1 => rfl
    case z2 => rfl
    case z3 => rfl
    clear F N
    refine hideG fun Gzq kzq => ?_
    obtain ⟨a0, a1, a2, a3, rfl⟩ := four_list hlen
    obtain ⟨t0, e0⟩ := hys 0 (by k_extra "om")
    obtain ⟨t1, e1⟩ := hys 1 (by k_extra "om")
    obtain ⟨t2, e2⟩ := hys 2 (by k_extra "om")
    obtain ⟨t3, e3⟩ := hys 3 (by k_extra "om")
    refine kzq ?_
    clear kzq Gzq
    simp only [List.getElem?_cons_zero, List.getElem?_cons_succ, Option.some.injEq] at e0 e1 e2 e3
    subst e0; subst e1; subst e2; subst e3
    have m0 : 0 ≤ mixAt x y T b 0 ∧ mixAt x y T b 0 ≤ 255 := rnd_bd ⟨x1, x2⟩ ⟨y1, y2⟩ q4 (by k_extra "om")
    have m1 : 0 ≤ mixAt x y T b 1 ∧ mixAt x y T b 1 ≤ 255 := rnd_bd ⟨x3, x4⟩ ⟨y3, y4⟩ q4 (by k_extra "om")
    have m2 : 0 ≤ mixAt x y T b 2 ∧ mixAt x y T b 2 ≤ 255 := rnd_bd ⟨x5, x6⟩ ⟨y5, y6⟩ q4 (by k_extra "om")
    have m3 : 0 ≤ mixAt x y T b 3 ∧ mixAt x y T b 3 ≤ 255 := rnd_bd ⟨x7, x8⟩ ⟨y7, y8⟩ q4 (by k_extra "om")
    clear hys hr
    simp only [List.append_nil] at N2'
    k_extra "S"
    (all_goals (try dsimp only)); (all_goals (try k_unfold)); (all_goals (try dsimp only))
    exact retM (by assumption) (by assumption) (fun kF kN => ret _ _ _ _ _ _ (by k_extra "sm") kF (news_pick kN (by k_mem)))
end
end
end Mine

namespace Mine
section
theorem rl_Colour_1 : True := by
  k_with "SI" => (repeat' ((fail_if_success (with_reducible show wpAny _ _ (subscriptTail _ (PySem.Expr.Call _ _ _ _) _ _) _ _ _)); (fail_if_success (with_reducible show wpAny _ _ (subscriptTail _ (PySem.Expr.BinOp _ _ _ _) _ _) _ _ _)); (fail_if_success (with_reducible show wpAny _ _ (exec (Stmt.While _ _ _ _) _) _ _ _)); (fail_if_success (with_reducible show wpAny _ _ (exec (Stmt.For _ _ _ _ _) _) _ _ _)); (fail_if_success (with_reducible show wpAny _ _ (eval (Expr.ListComp _ _ _ _) _) _ _ _)); (fail_if_success (with_reducible show wpAny _ _ (exec (Stmt.Assign _ (Expr.ListComp _ _ _ _) _) _) _ _ _)); (fail_if_success (with_reducible show wpAny _ _ (call (Value.builtin "list.append") _) _ _ _)); (fail_if_success (with_reducible show RetM _ _ _ _ _ _ _ _ _)); (fail_if_success (with_reducible show wpAny _ _ (pyIter _) _ _ _)); first | (k_unfold; (try dsimp only)) | (k_end; wrow_close) | walk1 | (dsimp only; walk1) | fail "no step"))
  k_with "eval Name" => (k_here; (fail_if_success (with_reducible show wpAny _ _ (eval (Expr.Name _ _) (compEnvC _ _ _ _)) _ _ _)); k_dflt (first | (refine' nameX_L ?Fzq ?vzq ?_ ?azq ?bzq; (case bzq => exact rfl); (case Fzq => k_asm); (case azq => exact rfl); (case vzq => first | exact rfl | assumption); k_whole) | (refine' nameX_K ?Fzq ?Xzq ?Tzq ?ezq ?_ ?azq ?bzq; (case bzq => exact rfl); (case Fzq => k_asm); (case Xzq => k_asm); (case Tzq => k_asm); (case azq => exact rfl); (case ezq => k_is); k_whole)))
  k_with "subscriptTail Name Constant ref int" => (k_here; k_dflt (refine' item_tupleT ?tzq ?azq ?bzq ?czq ?dzq ?_; (case tzq => (first | exact IsTup.keeps (by with_reducible assumption) (Fr.keep (by k_asm)) | exact News.isTup (by k_asm) (by k_mem) | exact tupK (Frag.In.keeps (by with_reducible assumption) (Fr.keep (by with_reducible assumption))) (by k_is))); (case azq => decide); (case bzq => decide); (case czq => rfl); (case dzq => rfl); k_whole))
  trivial


theorem rl_Colour_3 : True := by
  k_with "subscriptTail" => (k_here; (with_reducible show wpAny _ _ (subscriptTail _ _ (Value.ref _) (Value.int _ _)) _ _ _); k_dflt (refine' item_list ?lzq ?azq ?bzq ?czq ?_ ?dzq; (case lzq => exact isList_keeps (by assumption) (Fr.keep (by k_asm))); (case azq => omega); (case bzq => omega); (case czq => assumption); (case dzq => with_unfolding_all rfl); k_whole))
  k_with "subscriptTail Attribute" => ((try dsimp only); k_here; (with_reducible show wpAny _ _ (subscriptTail _ _ (Value.ref _) (Value.int _ _)) _ _ _); k_dflt (refine' item_list ?lzq ?azq ?bzq ?czq ?_ ?dzq; (case lzq => exact isList_keeps (by assumption) (Fr.keep (by k_asm))); (case azq => omega); (case bzq => omega); (case czq => assumption); (case dzq => with_unfolding_all rfl); k_whole))
  k_with "call builtin:len" => (k_here; (with_reducible show wpAny _ _ (call (Value.builtin "len") [Value.ref _]) _ _ _); k_dflt (refine' len_vs (isList_keeps (by assumption) (Fr.keep (by k_asm))) (by omega) ?_))
  trivial
structure Col4 where
  r : Int
  g : Int
  b : Int
  al : Int
def premC (x : Row) : Col4 := ⟨wgt x.r x.al, wgt x.g x.al, wgt x.b x.al, x.al⟩
def mixC (x y : Row) (T b : Int) : Col4 := ⟨wgt (mixAt x y T b 0) (mixAt x y T b 3), wgt (mixAt x y T b 1) (mixAt x y T b 3), wgt (mixAt x y T b 2) (mixAt x y T b 3), mixAt x y T b 3⟩
/-- how many of the first stops lie at the place or before it -/
def cnt (T b : Int) : List Row → Nat
  | [] => 0
  | x :: r => if x.o * b ≤ 8 * T then cnt T b r + 1 else 0
theorem cnt_le (T b : Int) : ∀ rows : List Row, cnt T b rows ≤ rows.length
  | [] => Nat.le_refl _
  | x :: r => by
    have := cnt_le T b r
    unfold cnt
    split <;> simp <;> omega
theorem cnt_step {T b : Int} : ∀ {rows : List Row} {k : Nat} {x : Row}, k ≤ cnt T b rows → rows[k]? = some x → x.o * b ≤ 8 * T → k + 1 ≤ cnt T b rows
  | [], k, x, _, h, _ => by simp at h
  | y :: r, 0, x, _, h, hx => by
    simp at h; subst h
    unfold cnt; rw [if_pos hx]; omega
  | y :: r, k + 1, x, hk, h, hx => by
    unfold cnt at hk ⊢
    split at hk
    · rename_i hy
      rw [if_pos hy]
      have := cnt_step (rows := r) (k := k) (x := x) (by k_extra "om") (by simpa using h) hx
      omega
    · omega
theorem cnt_stop {T b : Int} : ∀ {rows : List Row} {k : Nat} {x : Row}, k ≤ cnt T b rows → rows[k]? = some x → ¬ x.o * b ≤ 8 * T → k = cnt T b rows
  | [], k, x, _, h, _ => by simp at h
  | y :: r, 0, x, _, h, hx => by
    simp at h; subst h
    unfold cnt; rw [if_neg hx]
  | y :: r, k + 1, x, hk, h, hx => by
    unfold cnt at hk ⊢
    split at hk
    · rename_i hy
      rw [if_pos hy]
      have := cnt_stop (rows := r) (k := k) (x := x) (by k_extra "om") (by simpa using h) hx
      omega
    · omega
/-- the stop before the place has its offset at the place or before it -/
theorem cnt_before {T b : Int} : ∀ {rows : List Row} {k : Nat} {x : Row}, k + 1 = cnt T b rows → rows[k]? = some x → x.o * b ≤ 8 * T
  | [], k, x, _, h => by simp at h
  | y :: r, 0, x, hk, h => by
    simp at h; subst h
    unfold cnt at hk
    split at hk
    · assumption
    · omega
  | y :: r, k + 1, x, hk, h => by
    unfold cnt at hk
    split at hk
    · exact cnt_before (rows := r) (k := k) (by k_extra "om") (by simpa using h)
    · omega
theorem cnt_after {T b : Int} : ∀ {rows : List Row} {k : Nat} {x : Row}, k = cnt T b rows → rows[k]? = some x → ¬ x.o * b ≤ 8 * T
  | [], k, x, _, h => by simp at h
  | y :: r, 0, x, hk, h => by
    simp at h; subst h
    unfold cnt at hk
    split at hk
    · omega
    · assumption
  | y :: r, k + 1, x, hk, h => by
    unfold cnt at hk
    split at hk
    · exact cnt_after (rows := r) (k := k) (by k_extra "om") (by simpa using h)
    · omega
def colP (rows : List Row) (T b : Int) : Col4 :=
  if cnt T b rows = 0 ∨ cnt T b rows = rows.length then premC (rows.getD (cnt T b rows - 1) ⟨0, 0, 0, 0, 0⟩)
  else mixC (rows.getD (cnt T b rows - 1) ⟨0, 0, 0, 0, 0⟩) (rows.getD (cnt T b rows) ⟨0, 0, 0, 0, 0⟩) T b
abbrev colO (c : Col4) (t1 t2 t3 t4 : Tok) : Obj := fourO c.r c.g c.b c.al t1 t2 t3 t4
section
variable {prog : Program} {w : World} {p : Program} {loose : List Str} {mean : ExcName → Option Value} {mg mb : Str → Option Value}
  {dp un : Nat} {gd : Option (List Code)} {cn : Str} {cs : Scope} {a : Addr} {ccd : Value} {cl : List (Str × Addr)} {outer : List Env} {A₀ : Around} {base h₀ : Heap} {L : Addr}
  {m : Str → Option Value} {news : List (Addr × Obj)} {s : Shared} {Q E : Value → Shared → Prop}
theorem rl_Colour_4 : True := by
  k_with "call ref" => (k_here; (with_reducible show wpAny _ _ (call (Value.ref 290) _) _ _ _); k_dflt (refine' mixed_spec ?cBzq ?cFzq ?cXzq ?cNzq ?cTzq ?ckzq ?cdzq ?cuzq ?p0zq ?p1zq ?p2zq ?p3zq ?p4zq ?p5zq ?p6zq ?p7zq ?p8zq ?p9zq ?p10zq ?_; (case cBzq => k_asm); (case cFzq => k_asm); (case cXzq => k_asm); (case cNzq => k_asm); (case cTzq => k_asm); (case ckzq => first | rfl | assumption); (case cdzq => k_extra "om"); (case cuzq => k_extra "om"); (case p0zq => (exact StopAt.keeps (by assumption) (Fr.keep (by k_asm)))); (case p1zq => (exact StopAt.keeps (by assumption) (Fr.keep (by k_asm)))); (case p2zq => (first | exact FracAt.keeps (by with_reducible assumption) (Fr.keep (by k_asm)) | exact frac_news (by k_asm) (by k_mem) | exact zero_at (Frag.In.keeps (by with_reducible assumption) (Fr.keep (by with_reducible assumption))) | exact one_at (Frag.In.keeps (by with_reducible assumption) (Fr.keep (by with_reducible assumption))) | assumption)); (case p3zq => assumption); (case p4zq => assumption); (case p5zq => k_extra "om"); (case p6zq => k_extra "om"); (case p7zq => assumption); (case p8zq => assumption); (case p9zq => assumption); (case p10zq => assumption); k_whole; intro _ _ _ _ _ _ _ _ _; (try k_sweep)))
  trivial

theorem colour_spec {v va : Value} {rows : List Row} {T b : Int} (zB : Below A₀ base outer h₀) (zF : Fr h₀ L s.heap m) (zX : (hd.heap_39 w.params).In h₀) (zN : News h₀ L s.heap news) (zT : Top p loose mean mg mb h₀) (zk : cs.kind = .function) (hd : dp + 10 < recursionLimit) (hu : un + 200 < cLine) (hv : StopsAt s.heap v rows) (ht : FracAt s.heap va T b) (hr : ∀ x ∈ rows, x.ok ∧ 0 ≤ x.o ∧ x.o ≤ 8) (hn : rows ≠ []) (hn4 : rows.length ≤ 4)
    (hbb : 0 < b ∧ b < 2 ^ 6) (hT : -(2 ^ 10) < T ∧ T < 2 ^ 10)
    (ret : ∀ z t1 t2 t3 t4 s', Sm s s' → Fr h₀ L s'.heap m → News h₀ L s'.heap ((z, colO (colP rows T b) t1 t2 t3 t4) :: news) → Q (.ref z) s') :
    wpAny (model prog w) (ktrTop dp un gd cn cs L a ccd cl outer) (call (.ref 285) [v, va]) Q E s := by
  obtain ⟨l, vs, ⟨ix, dx, es, n, rfl, I, ⟨f1, _⟩, ⟨n1, n2, n3, _⟩⟩, il, hp⟩ := hv
  have hlen := hp.length
  have hemp : vs.isEmpty = false := by
    cases vs with
    | nil => exact absurd (List.eq_nil_of_length_eq_zero (by simpa using hlen.symm)) hn
    | cons => rfl
  have hpos : 0 < vs.length := by
    cases vs with
    | nil => simp at hemp
    | cons => simp
  obtain ⟨ta, rfl⟩ := ht.isRef
  k_dflt (refine' enterM (mu := []) (binds := [(Str.ofString "self", .ref ix), (Str.ofString "t", .ref ta)]) zB zF zX zN (fun _ _ h => nomatch h) zT zk ?k6 ?k7 ?k8 ?k9 ?kB ?c2 ?c3 ?c4 ?c5 ?_; (case k6 => k_is); (case k7 => k_is); (case k8 => k_extra "om"); (case k9 => first | exact BindsTo.of_eq rfl | exact binds_K (Frag.In.keeps zX zF.keep) rfl (by k_is) rfl rfl rfl); (case c5 => decide); (case kB => exact locs rfl); (case c2 => exact rfl); (case c3 => exact rfl); (case c4 => exact rfl); k_whole; intro gg gL gs gS gG gF gN gB gX gT gA gE; (try dsimp only); (try k_fold))
  have I := inst_keeps I fun b o e => gG b o e (fun h => nomatch h)
  have il := isList_keeps il fun b o e => gG b o e (fun h => nomatch h)
  have hp := paired_mono (fun _ _ q => StopAt.keeps q fun b o e => gG b o e (fun h => nomatch h)) hp
  have ht := ht.gsub gG
  k_extra "S"
  rename Fr _ _ _ _ => F2
  k_dflt (refine while_b (fun n m₁ nw => nw = [] ∧ ∃ (k : Nat) (tk : Tok), m₁ (Str.ofString "behind") = some (.int (k : Int) tk) ∧ m₁ (Str.ofString "self") = some (.ref ix) ∧ m₁ (Str.ofString "t") = some (.ref ta) ∧ k ≤ cnt T b rows ∧ n = rows.length - k) (n₀ := rows.length) F2 News.nil ⟨rfl, 0, _, rfl, rfl, rfl, Nat.zero_le _, rfl⟩ ?_)
  intro n m₁ nw s1 S1 F N' hJ
  refine hideG fun Gzq kzq => ?_
  obtain ⟨rfl, k, tk, q1, q2, q3, hk, rfl⟩ := hJ
  refine kzq ?_
  clear kzq Gzq
  by_cases hkl : k < vs.length
  · obtain ⟨y, hy, yv⟩ := paired_get hp k vs[k] (by simp [hkl])
    have hyv : vs[(k : Int).toNat]? = some vs[k] := by simp [hkl]
    generalize vs[k] = yk at *
    refine hideG fun Gzq kzq => ?_
    obtain ⟨vo, vsd, ta2, ⟨iy, dy, ey, ny, rfl, Iy, ⟨g1, g2, g3, _⟩, gno⟩, fo, sh⟩ := id yv
    obtain ⟨oa, rfl⟩ := fo.isRef
    obtain ⟨sa, rfl⟩ := sh.isRef
    obtain ⟨hyok, hy0, hy8⟩ := hr y (List.mem_of_getElem? hy)
    obtain ⟨⟨y1, y2⟩, ⟨y3, y4⟩, ⟨y5, y6⟩, ⟨y7, y8⟩⟩ := id hyok
    refine kzq ?_
    clear kzq Gzq
    k_extra "SI"
    · have hle : y.o * b ≤ 8 * T := by have := sgn_le.mp (by assumption); omega
      refine Turned.mk _ _ (rows.length - (k + 1)) (by k_extra "sm") (by assumption) News.nil (by k_extra "om") ?_
      exact ⟨rfl, k + 1, _, rfl, q2, q3, cnt_step hk hy hle, rfl⟩
    · have hk0 : k = 0 := by k_extra "om"
      subst hk0
      have hle : ¬ y.o * b ≤ 8 * T := fun h => absurd (sgn_le.mpr (show y.o * b - T * 8 ≤ 0 by k_extra "om")) (by assumption)
      have hc := cnt_stop hk hy hle
      have hcol : colP rows T b = premC y := by
        unfold colP
        rw [if_pos (.inl hc.symm), ← hc]
        simp [List.getD, hy]
      rw [hcol] at ret
      have hz : vs[((if (0 : Int) > ((0 : Nat) : Int) - 1 then 0 else ((0 : Nat) : Int) - 1)).toNat]? = some (.ref iy) := by simpa using hyv
      k_extra "S"
      (all_goals (try dsimp only)); (all_goals (try k_unfold)); (all_goals (try dsimp only))
      exact retM (by assumption) (by assumption) (fun kF kN => ret _ _ _ _ _ _ (by k_extra "sm") kF (news_pick kN (by k_mem)))
    · exfalso; omega
    · have hk0 : 0 < k := by k_extra "om"
      have hle : ¬ y.o * b ≤ 8 * T := fun h => absurd (sgn_le.mpr (show y.o * b - T * 8 ≤ 0 by k_extra "om")) (by assumption)
      have hc := cnt_stop hk hy hle
      refine hideG fun Gzq kzq => ?_
      obtain ⟨x, hx, xv⟩ := paired_get hp (k - 1) vs[k - 1] (by simp <;> omega)
      refine kzq ?_
      clear kzq Gzq
      have hxv : vs[((k : Int) - 1).toNat]? = some vs[k - 1] := by
        rw [show ((k : Int) - 1).toNat = k - 1 by k_extra "om"]
        simp <;> omega
      generalize vs[k - 1] = xk at *
      refine hideG fun Gzq kzq => ?_
      obtain ⟨_, _, _, ⟨jx, _, _, _, rfl, _⟩, _⟩ := id xv
      obtain ⟨hxok, hx0, hx8⟩ := hr x (List.mem_of_getElem? hx)
      refine kzq ?_
      clear kzq Gzq
      have hxb := cnt_before (rows := rows) (k := k - 1) (T := T) (b := b) (by k_extra "om") hx
      have hyb : 8 * T < y.o * b := by k_extra "om"
      have hcol : colP rows T b = mixC x y T b := by
        unfold colP
        rw [if_neg (by k_extra "om"), ← hc]
        simp [List.getD, hx, hy]
      rw [hcol] at ret
      k_extra "S"
      (all_goals (try dsimp only)); (all_goals (try k_unfold)); (all_goals (try dsimp only))
      exact retM (by assumption) (by assumption) (fun kF kN => ret _ _ _ _ _ _ (by k_extra "sm") kF (news_pick kN (by k_mem)))
  · have hkl2 : k = rows.length := by have := cnt_le T b rows; omega
    have hc : k = cnt T b rows := by have := cnt_le T b rows; omega
    refine hideG fun Gzq kzq => ?_
    obtain ⟨x, hx, xv⟩ := paired_get hp (k - 1) vs[k - 1] (by simp <;> omega)
    refine kzq ?_
    clear kzq Gzq
    have hxv : vs[((if (0 : Int) > (k : Int) - 1 then 0 else (k : Int) - 1)).toNat]? = some vs[k - 1] := by
      rw [if_neg (by k_extra "om"), show ((k : Int) - 1).toNat = k - 1 by k_extra "om"]
      simp <;> omega
    generalize vs[k - 1] = xk at *
    refine hideG fun Gzq kzq => ?_
    obtain ⟨vo, vsd, ta2, ⟨iy, dy, ey, ny, rfl, Iy, ⟨g1, g2, g3, _⟩, gno⟩, fo, sh⟩ := id xv
    obtain ⟨sa, rfl⟩ := sh.isRef
    obtain ⟨hxok, hx0, hx8⟩ := hr x (List.mem_of_getElem? hx)
    obtain ⟨⟨y1, y2⟩, ⟨y3, y4⟩, ⟨y5, y6⟩, ⟨y7, y8⟩⟩ := id hxok
    refine kzq ?_
    clear kzq Gzq
    have hcol : colP rows T b = premC x := by
      unfold colP
      rw [if_pos (.inr (by k_extra "om")), ← hc]
      simp [List.getD, hx]
    rw [hcol] at ret
    have hkv : (k : Int) = (vs.length : Int) := by k_extra "om"
    k_extra "S"
    (all_goals (try dsimp only)); (all_goals (try k_unfold)); (all_goals (try dsimp only))
    all_goals exact retM (by assumption) (by assumption) (fun kF kN => ret _ _ _ _ _ _ (by k_extra "sm") kF (news_pick kN (by k_mem)))
end
end
end Mine

namespace Mine
section


theorem rl_Lin_3 : True := by
  k_with "k_ne" => (refine' ne_of_data ?knzq ?kazq ?kbzq ?kdzq; (case knzq => k_asm); (case kazq => k_mem); (case kbzq => k_mem); (case kdzq => (intro hq; cases hq; done)))
  trivial

theorem PtAt.isRef {h : Heap} {v : Value} {A B C D : Int} (x : PtAt h v A B C D) : ∃ a, v = .ref a := let ⟨a, _, _, e, _, _, _⟩ := x; ⟨a, e⟩
theorem ObjAt.isRef {h : Heap} {v : Value} {C : Addr} {fs : List (Str × Value)} {no : List Str} (x : ObjAt h v C fs no) : ∃ a, v = .ref a := let ⟨a, _, _, _, e, _, _, _⟩ := x; ⟨a, e⟩
theorem StopsAt.isRef {h : Heap} {v : Value} {rows : List Row} (x : StopsAt h v rows) : ∃ a, v = .ref a := let ⟨_, _, o, _, _⟩ := x; o.isRef
theorem ObjAt.gsub {h g : Heap} {v : Value} {C : Addr} {fs : List (Str × Value)} {no : List Str} (x : ObjAt h v C fs no) (G : GSub h g ([] : List Addr)) : ObjAt g v C fs no := x.keeps fun b o e => G b o e (fun h => nomatch h)
theorem tup_own {h : Heap} {own : List (Addr × Obj)} (hh : ∀ q ∈ own, h.get? q.1 = some q.2) {a : Addr} {items : Array Value} {c : Nat} (hm : (a, ({ cls := .type "tuple", data := .seq items c } : Obj)) ∈ own) : IsTup h a items := ⟨_, hh _ hm, rfl, c, rfl⟩
/-- what a Linear holds of its own -/
inductive LinAt (h : Heap) (v vs vp vm : Value) (k : Kd) (A B : Int) : Prop
  | mk (vw : _) (vz : _) (tk : _) (q1 : ObjAt h v 342 [(Str.ofString "stops", vs), (Str.ofString "p", vp), (Str.ofString "way", vw), (Str.ofString "size", vz), (Str.ofString "kind", .str k.str tk), (Str.ofString "inverse", vm)] [Str.ofString "share_at", Str.ofString "colour_at"]) (q2 : PtAt h vw A 1 B 1) (q3 : FracAt h vz (A * A + B * B) 1) : LinAt h v vs vp vm k A B
theorem LinAt.keeps {h h' : Heap} {v vs vp vm : Value} {k : Kd} {A B : Int} (x : LinAt h v vs vp vm k A B) (hk : ∀ b o, h.get? b = some o → h'.get? b = some o) : LinAt h' v vs vp vm k A B := let ⟨vw, vz, tk, o, p, f⟩ := x; ⟨vw, vz, tk, o.keeps hk, p.keeps hk, f.keeps hk⟩
section
variable {prog : Program} {w : World} {p : Program} {loose : List Str} {mean : ExcName → Option Value} {mg mb : Str → Option Value}
  {dp un : Nat} {gd : Option (List Code)} {cn : Str} {cs : Scope} {a : Addr} {ccd : Value} {cl : List (Str × Addr)} {outer : List Env} {A₀ : Around} {base h₀ : Heap} {L : Addr}
  {m : Str → Option Value} {news : List (Addr × Obj)} {s : Shared} {Q E : Value → Shared → Prop}
theorem colour_nil_spec {v va : Value} (zB : Below A₀ base outer h₀) (zF : Fr h₀ L s.heap m) (zX : (hd.heap_39 w.params).In h₀) (zN : News h₀ L s.heap news) (zT : Top p loose mean mg mb h₀) (zk : cs.kind = .function) (hd : dp + 4 < recursionLimit) (hu : un + 80 < cLine) (hv : StopsAt s.heap v [])
    (ret : ∀ s', Sm s s' → Fr h₀ L s'.heap m → News h₀ L s'.heap news → Q (.ref 222) s') :
    wpAny (model prog w) (ktrTop dp un gd cn cs L a ccd cl outer) (call (.ref 285) [v, va]) Q E s := by
  obtain ⟨l, vs, ⟨ix, dx, es, n, rfl, I, ⟨f1, _⟩, hno⟩, il, hp⟩ := hv
  have hemp : vs.isEmpty = true := by
    have := hp.length
    cases vs with
    | nil => rfl
    | cons => simp at this
  k_dflt (refine' enterM (mu := []) (binds := [(Str.ofString "self", .ref ix), (Str.ofString "t", va)]) zB zF zX zN (fun _ _ h => nomatch h) zT zk ?k6 ?k7 ?k8 ?k9 ?kB ?c2 ?c3 ?c4 ?c5 ?_; (case k6 => k_is); (case k7 => k_is); (case k8 => k_extra "om"); (case k9 => first | exact BindsTo.of_eq rfl | exact binds_K (Frag.In.keeps zX zF.keep) rfl (by k_is) rfl rfl rfl); (case c5 => decide); (case kB => exact locs rfl); (case c2 => exact rfl); (case c3 => exact rfl); (case c4 => exact rfl); k_whole; intro gg gL gs gS gG gF gN gB gX gT gA gE; (try dsimp only); (try k_fold))
  have I := inst_keeps I fun b o e => gG b o e (fun h => nomatch h)
  have il := isList_keeps il fun b o e => gG b o e (fun h => nomatch h)
  k_extra "S"
  (all_goals (try dsimp only)); (all_goals (try k_unfold)); (all_goals (try dsimp only))
  exact retM (by assumption) (by assumption) (fun kF kN => ret _ (by k_extra "sm") kF (news_drop kN))

theorem rl_Lin_5 : True := by
  k_with "call ref" => (k_here; (with_reducible show wpAny _ _ (call (Value.ref 193) _) _ _ _); k_dflt (refine' check_kind_spec ?cBzq ?cFzq ?cXzq ?cNzq ?cTzq ?ckzq ?cdzq ?cuzq ?p0zq ?_; (case cBzq => k_asm); (case cFzq => k_asm); (case cXzq => k_asm); (case cNzq => k_asm); (case cTzq => k_asm); (case ckzq => first | rfl | assumption); (case cdzq => k_extra "om"); (case cuzq => k_extra "om"); (case p0zq => (first | rfl | assumption)); k_whole; intro _ _ _ _; (try k_sweep)))
  k_with "call ref" => (k_here; (with_reducible show wpAny _ _ (call (Value.ref 304) _) _ _ _); k_dflt (refine' less_spec ?cBzq ?cFzq ?cXzq ?cNzq ?cTzq ?ckzq ?cdzq ?cuzq ?p0zq ?p1zq ?p2zq ?p3zq ?p4zq ?p5zq ?p6zq ?p7zq ?_; (case cBzq => k_asm); (case cFzq => k_asm); (case cXzq => k_asm); (case cNzq => k_asm); (case cTzq => k_asm); (case ckzq => first | rfl | assumption); (case cdzq => k_extra "om"); (case cuzq => k_extra "om"); (case p0zq => (first | exact PtAt.keeps (by with_reducible assumption) (Fr.keep (by k_asm)) | exact pt_news (by k_asm) (by k_mem) (by k_mem) (by k_mem))); (case p1zq => (first | exact PtAt.keeps (by with_reducible assumption) (Fr.keep (by k_asm)) | exact pt_news (by k_asm) (by k_mem) (by k_mem) (by k_mem))); (case p2zq => assumption); (case p3zq => assumption); (case p4zq => k_extra "om"); (case p5zq => k_extra "om"); (case p6zq => k_extra "om"); (case p7zq => k_extra "om"); k_whole; intro v9 own9 s9 H9 S9 F9 N9; (obtain ⟨a9, x9, y9, s91, s92, s93, s94, e91, e92⟩ := H9; subst e91; subst e92; (try dsimp only [List.cons_append, List.nil_append] at N9)); (revert s9 S9 F9 N9 a9 x9 y9 s91 s92 s93 s94; intros); (try k_sweep)))
  k_with "call ref" => (k_here; (with_reducible show wpAny _ _ (call (Value.ref 311) _) _ _ _); k_dflt (refine' product_spec ?cBzq ?cFzq ?cXzq ?cNzq ?cTzq ?ckzq ?cdzq ?cuzq ?p0zq ?p1zq ?p2zq ?p3zq ?p4zq ?p5zq ?_; (case cBzq => k_asm); (case cFzq => k_asm); (case cXzq => k_asm); (case cNzq => k_asm); (case cTzq => k_asm); (case ckzq => first | rfl | assumption); (case cdzq => k_extra "om"); (case cuzq => k_extra "om"); (case p0zq => (first | exact PtAt.keeps (by with_reducible assumption) (Fr.keep (by k_asm)) | exact pt_news (by k_asm) (by k_mem) (by k_mem) (by k_mem))); (case p1zq => (first | exact PtAt.keeps (by with_reducible assumption) (Fr.keep (by k_asm)) | exact pt_news (by k_asm) (by k_mem) (by k_mem) (by k_mem))); (case p2zq => k_extra "om"); (case p3zq => k_extra "om"); (case p4zq => k_extra "om"); (case p5zq => k_extra "om"); k_whole; intro _ _ _ _ _ _ _; (try k_sweep)))
  trivial

theorem mklinear_spec {vs vp vq vm : Value} {k : Kd} {tk : Tok} {px py qx qy A B : Int} (zB : Below A₀ base outer h₀) (zF : Fr h₀ L s.heap m) (zX : (hd.heap_39 w.params).In h₀) (zN : News h₀ L s.heap news) (zT : Top p loose mean mg mb h₀) (zk : cs.kind = .function) (hd : dp + 8 < recursionLimit) (hu : un + 160 < cLine) (hp : PtAt s.heap vp px 2 py 2) (hq : PtAt s.heap vq qx 2 qy 2) (hA : qx - px = 2 * A) (hB : qy - py = 2 * B)
    (b1 : -(2 ^ 8) < px ∧ px < 2 ^ 8) (b2 : -(2 ^ 8) < py ∧ py < 2 ^ 8) (b3 : -(2 ^ 8) < qx ∧ qx < 2 ^ 8) (b4 : -(2 ^ 8) < qy ∧ qy < 2 ^ 8)
    (ret : ∀ v own s', Holds w own (fun h => LinAt h v vs vp vm k A B) → (∀ q ∈ own, s.heap.get? q.1 = none) → Sm s s' → Fr h₀ L s'.heap m → News h₀ L s'.heap (own ++ news) → Q v s') :
    wpAny (model prog w) (ktrTop dp un gd cn cs L a ccd cl outer) (call (.ref 342) [vs, vp, vq, .str k.str tk, vm]) Q E s := by
  k_dflt (refine' makeM (binds := fun x => [(Str.ofString "self", .ref x), (Str.ofString "stops", vs), (Str.ofString "p", vp), (Str.ofString "q", vq), (Str.ofString "kind", .str k.str tk), (Str.ofString "inverse", vm)]) zB zF zX zN zT zk ?m1 ?m2 ?m3 ?k6 ?k7 ?k8 ?k9 ?kB ?c2 ?c3 ?c4 ?c5 ?_; (case m1 => k_is); (case m2 => k_is); (case m3 => k_is); (case k6 => k_is); (case k7 => k_is); (case k8 => k_extra "om"); (case k9 => intro _ _ hXX; first | exact BindsTo.of_eq rfl | exact binds_K hXX rfl (by k_is) rfl rfl rfl); (case c5 => decide); (case kB => intro _; exact locs rfl); (case c2 => exact rfl); (case c3 => exact rfl); (case c4 => exact rfl); k_whole; intro gg gL gs ix dx gS lx gG gF gN gB gX gT gA gE; (replace lx := ltN lx); (try dsimp only); (try k_fold))
  have hp := hp.keeps gG
  have hq := hq.keeps gG
  k_extra "S"
  (all_goals (try dsimp only)); (all_goals (try k_unfold)); (all_goals (try dsimp only))
  rename News gg _ _ _ => N0
  refine retM (by assumption) N0 (fun kF kN => ⟨rfl, ret _ _ _ (fun h X hh => ⟨_, _, _, ObjAt.make hh (by k_mem) (by k_mem) ⟨rfl, rfl, rfl, rfl, rfl, rfl, trivial⟩ ⟨rfl, rfl, trivial⟩, ?_, ?_⟩) (fresh_of N0 gG) (by k_extra "sm") kF kN⟩)
  · exact ⟨_, _, _, rfl, tup_own hh (by k_mem), ⟨_, _, _, rfl, tup_own hh (by k_mem)⟩, ⟨_, _, _, rfl, tup_own hh (by k_mem)⟩⟩
  · exact ⟨_, _, _, rfl, tup_own hh (by k_mem)⟩

theorem rl_Lin_6 : True := by
  k_with "call ref" => (k_here; (with_reducible show wpAny _ _ (call (Value.ref 185) _) _ _ _); k_dflt (refine' middle_of_spec ?cBzq ?cFzq ?cXzq ?cNzq ?cTzq ?ckzq ?cdzq ?cuzq ?p0zq ?p1zq ?_; (case cBzq => k_asm); (case cFzq => k_asm); (case cXzq => k_asm); (case cNzq => k_asm); (case cTzq => k_asm); (case ckzq => first | rfl | assumption); (case cdzq => k_extra "om"); (case cuzq => k_extra "om"); (case p0zq => k_extra "om"); (case p1zq => k_extra "om"); k_whole; intro v9 own9 s9 H9 S9 F9 N9; (obtain ⟨a9, x9, y9, s91, s92, s93, s94, e91, e92⟩ := H9; subst e91; subst e92; (try dsimp only [List.cons_append, List.nil_append] at N9)); (revert s9 S9 F9 N9 a9 x9 y9 s91 s92 s93 s94; intros); (try k_sweep)))
  k_with "call ref" => (k_here; (with_reducible show wpAny _ _ (call (Value.ref 431) _) _ _ _); k_dflt (refine' point_spec ?cBzq ?cFzq ?cXzq ?cNzq ?cTzq ?ckzq ?cdzq ?cuzq ?p0zq ?p1zq ?p2zq ?p3zq ?_; (case cBzq => k_asm); (case cFzq => k_asm); (case cXzq => k_asm); (case cNzq => k_asm); (case cTzq => k_asm); (case ckzq => first | rfl | assumption); (case cdzq => k_extra "om"); (case cuzq => k_extra "om"); (case p0zq => (exact ObjAt.keeps (by assumption) (Fr.keep (by k_asm)))); (case p1zq => (first | exact PtAt.keeps (by with_reducible assumption) (Fr.keep (by k_asm)) | exact pt_news (by k_asm) (by k_mem) (by k_mem) (by k_mem))); (case p2zq => k_extra "om"); (case p3zq => k_extra "om"); k_whole; intro v9 own9 s9 H9 S9 F9 N9; (obtain ⟨a9, x9, y9, s91, s92, s93, s94, e91, e92⟩ := H9; subst e91; subst e92; (try dsimp only [List.cons_append, List.nil_append] at N9)); (revert s9 S9 F9 N9 a9 x9 y9 s91 s92 s93 s94; intros); (try k_sweep)))
  trivial

theorem lin_share_spec {v vs vp vm : Value} {k : Kd} {px py x y A B C D : Int} {t1 t2 : Tok} (zB : Below A₀ base outer h₀) (zF : Fr h₀ L s.heap m) (zX : (hd.heap_39 w.params).In h₀) (zN : News h₀ L s.heap news) (zT : Top p loose mean mg mb h₀) (zk : cs.kind = .function) (hd : dp + 10 < recursionLimit) (hu : un + 200 < cLine) (hv : LinAt s.heap v vs vp vm k A B) (hp : PtAt s.heap vp (2 * px + 1) 2 (2 * py + 1) 2) (hm : MatAt s.heap vm)
    (b1 : -(2 ^ 6) < px ∧ px < 2 ^ 6) (b2 : -(2 ^ 6) < py ∧ py < 2 ^ 6) (b3 : -(2 ^ 6) < x ∧ x < 2 ^ 6) (b4 : -(2 ^ 6) < y ∧ y < 2 ^ 6) (b5 : -(2 ^ 6) < A ∧ A < 2 ^ 6) (b6 : -(2 ^ 6) < B ∧ B < 2 ^ 6)
    (hS : 0 < A * A + B * B) (hC : ((x - px) * A + (y - py) * B) * D = C * (A * A + B * B)) (hD : 0 < D)
    (ret : ∀ r u1 u2 s', Sm s s' → Fr h₀ L s'.heap m → News h₀ L s'.heap ((r, frO C D u1 u2) :: news) → Q (.ref r) s') :
    wpAny (model prog w) (ktrTop dp un gd cn cs L a ccd cl outer) (call (.ref 332) [v, .int x t1, .int y t2]) Q E s := by
  obtain ⟨vw, vz, tk, ⟨ix, dx, es, n, rfl, I, ⟨f1, f2, f3, f4, f5, f6, _⟩, ⟨n1, n2, _⟩⟩, hw, hz⟩ := hv
  obtain ⟨pa, rfl⟩ := hp.isRef
  obtain ⟨im, dm, em, nm, rfl, Im, mf, ⟨m1, m2, _⟩⟩ := id hm
  obtain ⟨wa, rfl⟩ := hw.isRef
  obtain ⟨za, rfl⟩ := hz.isRef
  have q1 := mul_bd (x := A) (y := A) (a := 2 ^ 6) (b := 2 ^ 6) b5 b5
  have q2 := mul_bd (x := B) (y := B) (a := 2 ^ 6) (b := 2 ^ 6) b6 b6
  have q3 := mul_bd (x := x - px) (y := A) (a := 2 ^ 7) (b := 2 ^ 6) (by k_extra "om") b5
  have q4 := mul_bd (x := y - py) (y := B) (a := 2 ^ 7) (b := 2 ^ 6) (by k_extra "om") b6
  have hl1 : (2 * x + 1) - (2 * px + 1) = 2 * (x - px) := by k_extra "om"
  have hl2 : (2 * y + 1) - (2 * py + 1) = 2 * (y - py) := by k_extra "om"
  have hs : Int.sign ((A * A + B * B) * 1 - 0 * 1) ≠ 0 := by
    rw [Ne, sgn_zero]; omega
  k_dflt (refine' enterM (mu := []) (binds := [(Str.ofString "self", .ref ix), (Str.ofString "x", .int x t1), (Str.ofString "y", .int y t2)]) zB zF zX zN (fun _ _ h => nomatch h) zT zk ?k6 ?k7 ?k8 ?k9 ?kB ?c2 ?c3 ?c4 ?c5 ?_; (case k6 => k_is); (case k7 => k_is); (case k8 => k_extra "om"); (case k9 => first | exact BindsTo.of_eq rfl | exact binds_K (Frag.In.keeps zX zF.keep) rfl (by k_is) rfl rfl rfl); (case c5 => decide); (case kB => exact locs rfl); (case c2 => exact rfl); (case c3 => exact rfl); (case c4 => exact rfl); k_whole; intro gg gL gs gS gG gF gN gB gX gT gA gE; (try dsimp only); (try k_fold))
  have I := inst_keeps I fun b o e => gG b o e (fun h => nomatch h)
  have Im := inst_keeps Im fun b o e => gG b o e (fun h => nomatch h)
  have hm := hm.gsub gG
  have hp := hp.gsub gG
  have hw := hw.gsub gG
  have hz := hz.gsub gG
  k_extra "S"
  · exact absurd (by assumption) hs
  · (all_goals (try dsimp only)); (all_goals (try k_unfold)); (all_goals (try dsimp only))
    have e6 := fun u1 u2 => frO_of (fr_eq (A := ((x - px) * A + (y - py) * B) * 1) (B := 1 * (A * A + B * B)) (C := C) (D := D) (by k_extra "om") hD (by rw [Int.mul_one, Int.one_mul]; exact hC)) u1 u2
    refine retM (by assumption) (by assumption) (fun kF kN => ?_)
    rw [e6] at kN
    exact ret _ _ _ _ (by k_extra "sm") kF (news_pick kN (by k_mem))

/-- a Linear without a length -/
theorem lin_share0_spec {v vs vp vm : Value} {k : Kd} {x y : Int} {t1 t2 : Tok} (zB : Below A₀ base outer h₀) (zF : Fr h₀ L s.heap m) (zX : (hd.heap_39 w.params).In h₀) (zN : News h₀ L s.heap news) (zT : Top p loose mean mg mb h₀) (zk : cs.kind = .function) (hd : dp + 10 < recursionLimit) (hu : un + 200 < cLine) (hv : LinAt s.heap v vs vp vm k 0 0)
    (ret : ∀ s', Sm s s' → Fr h₀ L s'.heap m → News h₀ L s'.heap news → Q .none s') :
    wpAny (model prog w) (ktrTop dp un gd cn cs L a ccd cl outer) (call (.ref 332) [v, .int x t1, .int y t2]) Q E s := by
  obtain ⟨vw, vz, tk, ⟨ix, dx, es, n, rfl, I, ⟨f1, f2, f3, f4, f5, f6, _⟩, ⟨n1, n2, _⟩⟩, hw, hz⟩ := hv
  obtain ⟨za, rfl⟩ := hz.isRef
  k_dflt (refine' enterM (mu := []) (binds := [(Str.ofString "self", .ref ix), (Str.ofString "x", .int x t1), (Str.ofString "y", .int y t2)]) zB zF zX zN (fun _ _ h => nomatch h) zT zk ?k6 ?k7 ?k8 ?k9 ?kB ?c2 ?c3 ?c4 ?c5 ?_; (case k6 => k_is); (case k7 => k_is); (case k8 => k_extra "om"); (case k9 => first | exact BindsTo.of_eq rfl | exact binds_K (Frag.In.keeps zX zF.keep) rfl (by k_is) rfl rfl rfl); (case c5 => decide); (case kB => exact locs rfl); (case c2 => exact rfl); (case c3 => exact rfl); (case c4 => exact rfl); k_whole; intro gg gL gs gS gG gF gN gB gX gT gA gE; (try dsimp only); (try k_fold))
  have I := inst_keeps I fun b o e => gG b o e (fun h => nomatch h)
  have hz := hz.gsub gG
  k_extra "S"
  (all_goals (try dsimp only)); (all_goals (try k_unfold)); (all_goals (try dsimp only))
  exact retM (by assumption) (by assumption) (fun kF kN => ret _ (by k_extra "sm") kF (news_drop kN))
end
end
end Mine

namespace Mine
section


section
variable {prog : Program} {w : World} {p : Program} {loose : List Str} {mean : ExcName → Option Value} {mg mb : Str → Option Value}
  {dp un : Nat} {gd : Option (List Code)} {cn : Str} {cs : Scope} {a : Addr} {ccd : Value} {cl : List (Str × Addr)} {outer : List Env} {A₀ : Around} {base h₀ : Heap} {L : Addr}
  {m : Str → Option Value} {news : List (Addr × Obj)} {s : Shared} {Q E : Value → Shared → Prop}
theorem rl_Lin2_3 : True := by
  k_with "call ref" => (k_here; (with_reducible show wpAny _ _ (call (Value.ref 332) _) _ _ _); k_dflt (refine' lin_share_spec ?cBzq ?cFzq ?cXzq ?cNzq ?cTzq ?ckzq ?cdzq ?cuzq ?p0zq ?p1zq ?p2zq ?p3zq ?p4zq ?p5zq ?p6zq ?p7zq ?p8zq ?p9zq ?p10zq ?p11zq ?_; (case cBzq => k_asm); (case cFzq => k_asm); (case cXzq => k_asm); (case cNzq => k_asm); (case cTzq => k_asm); (case ckzq => first | rfl | assumption); (case cdzq => k_extra "om"); (case cuzq => k_extra "om"); (case p0zq => (exact LinAt.keeps (by assumption) (Fr.keep (by k_asm)))); (case p1zq => (first | exact PtAt.keeps (by with_reducible assumption) (Fr.keep (by k_asm)) | exact pt_news (by k_asm) (by k_mem) (by k_mem) (by k_mem))); (case p2zq => (exact ObjAt.keeps (by assumption) (Fr.keep (by k_asm)))); (case p3zq => assumption); (case p4zq => assumption); (case p5zq => assumption); (case p6zq => assumption); (case p7zq => assumption); (case p8zq => assumption); (case p9zq => assumption); (case p10zq => assumption); (case p11zq => k_extra "om"); k_whole; intro _ _ _ _ _ _ _; (try k_sweep)))
  k_with "call ref" => (k_here; (with_reducible show wpAny _ _ (call (Value.ref 221) _) _ _ _); k_dflt (refine' spread_spec ?cBzq ?cFzq ?cXzq ?cNzq ?cTzq ?ckzq ?cdzq ?cuzq ?p0zq ?p1zq ?p2zq ?p3zq ?_; (case cBzq => k_asm); (case cFzq => k_asm); (case cXzq => k_asm); (case cNzq => k_asm); (case cTzq => k_asm); (case ckzq => first | rfl | assumption); (case cdzq => k_extra "om"); (case cuzq => k_extra "om"); (case p0zq => (first | rfl | assumption)); (case p1zq => (first | exact FracAt.keeps (by with_reducible assumption) (Fr.keep (by k_asm)) | exact frac_news (by k_asm) (by k_mem) | exact zero_at (Frag.In.keeps (by with_reducible assumption) (Fr.keep (by with_reducible assumption))) | exact one_at (Frag.In.keeps (by with_reducible assumption) (Fr.keep (by with_reducible assumption))) | assumption)); (case p2zq => k_extra "om"); (case p3zq => k_extra "om"); k_whole; intro v9 s9 own9 S9 F9 N9 f9; (obtain ⟨sr9, es9⟩ := f9.isRef; subst es9); (revert s9 own9 S9 F9 N9 f9 sr9; intros); (try k_sweep)))
  k_with "call ref" => (k_here; (with_reducible show wpAny _ _ (call (Value.ref 285) _) _ _ _); k_dflt (refine' colour_spec ?cBzq ?cFzq ?cXzq ?cNzq ?cTzq ?ckzq ?cdzq ?cuzq ?p0zq ?p1zq ?p2zq ?p3zq ?p4zq ?p5zq ?p6zq ?_; (case cBzq => k_asm); (case cFzq => k_asm); (case cXzq => k_asm); (case cNzq => k_asm); (case cTzq => k_asm); (case ckzq => first | rfl | assumption); (case cdzq => k_extra "om"); (case cuzq => k_extra "om"); (case p0zq => (exact StopsAt.keeps (by assumption) (Fr.keep (by k_asm)))); (case p1zq => (first | exact FracAt.keeps (by with_reducible assumption) (Fr.keep (by k_asm)) | exact frac_news (by k_asm) (by k_mem) | exact zero_at (Frag.In.keeps (by with_reducible assumption) (Fr.keep (by with_reducible assumption))) | exact one_at (Frag.In.keeps (by with_reducible assumption) (Fr.keep (by with_reducible assumption))) | assumption)); (case p2zq => assumption); (case p3zq => assumption); (case p4zq => assumption); (case p5zq => k_extra "om"); (case p6zq => k_extra "om"); k_whole; intro _ _ _ _ _ _ _ _ _; (try k_sweep)))
  trivial

theorem lin_colour_spec {v vs vp vm : Value} {k : Kd} {rows : List Row} {px py x y A B C D : Int} {t1 t2 : Tok} (zB : Below A₀ base outer h₀) (zF : Fr h₀ L s.heap m) (zX : (hd.heap_39 w.params).In h₀) (zN : News h₀ L s.heap news) (zT : Top p loose mean mg mb h₀) (zk : cs.kind = .function) (hd : dp + 14 < recursionLimit) (hu : un + 280 < cLine) (hv : LinAt s.heap v vs vp vm k A B) (hp : PtAt s.heap vp (2 * px + 1) 2 (2 * py + 1) 2) (hm : MatAt s.heap vm)
    (hst : StopsAt s.heap vs rows) (hr : ∀ x ∈ rows, x.ok ∧ 0 ≤ x.o ∧ x.o ≤ 8) (hn : rows ≠ []) (hn4 : rows.length ≤ 4)
    (b1 : -(2 ^ 6) < px ∧ px < 2 ^ 6) (b2 : -(2 ^ 6) < py ∧ py < 2 ^ 6) (b3 : -(2 ^ 6) < x ∧ x < 2 ^ 6) (b4 : -(2 ^ 6) < y ∧ y < 2 ^ 6) (b5 : -(2 ^ 6) < A ∧ A < 2 ^ 6) (b6 : -(2 ^ 6) < B ∧ B < 2 ^ 6)
    (hS : 0 < A * A + B * B) (hD : 0 < D ∧ D < 2 ^ 6) (hT : -(2 ^ 10) < C ∧ C < 2 ^ 10) (hC : ((x - px) * A + (y - py) * B) * D = C * (A * A + B * B))
    (ret : ∀ z t1 t2 t3 t4 s', Sm s s' → Fr h₀ L s'.heap m → News h₀ L s'.heap ((z, colO (colP rows (spr k C D) D) t1 t2 t3 t4) :: news) → Q (.ref z) s') :
    wpAny (model prog w) (ktrTop dp un gd cn cs L a ccd cl outer) (call (.ref 339) [v, .int x t1, .int y t2]) Q E s := by
  obtain ⟨vw, vz, tk, ⟨ix, dx, es, n, rfl, I, ⟨f1, f2, f3, f4, f5, f6, _⟩, ⟨n1, n2, _⟩⟩, hw, hz⟩ := id hv
  obtain ⟨l, vl, ⟨is, ds, ess, ns, rfl, Is, ⟨g1, _⟩, ⟨m1, m2, m3, _⟩⟩, il, hpp⟩ := id hst
  have hsp := spr_bd (k := k) (T := C) hD.1
  k_dflt (refine' enterM (mu := []) (binds := [(Str.ofString "self", .ref ix), (Str.ofString "x", .int x t1), (Str.ofString "y", .int y t2)]) zB zF zX zN (fun _ _ h => nomatch h) zT zk ?k6 ?k7 ?k8 ?k9 ?kB ?c2 ?c3 ?c4 ?c5 ?_; (case k6 => k_is); (case k7 => k_is); (case k8 => k_extra "om"); (case k9 => first | exact BindsTo.of_eq rfl | exact binds_K (Frag.In.keeps zX zF.keep) rfl (by k_is) rfl rfl rfl); (case c5 => decide); (case kB => exact locs rfl); (case c2 => exact rfl); (case c3 => exact rfl); (case c4 => exact rfl); k_whole; intro gg gL gs gS gG gF gN gB gX gT gA gE; (try dsimp only); (try k_fold))
  have I := inst_keeps I fun b o e => gG b o e (fun h => nomatch h)
  have Is := inst_keeps Is fun b o e => gG b o e (fun h => nomatch h)
  have hv := hv.keeps fun b o e => gG b o e (fun h => nomatch h)
  have hm := hm.gsub gG
  have hp := hp.gsub gG
  have hst := hst.keeps fun b o e => gG b o e (fun h => nomatch h)
  clear hw hz il hpp
  k_extra "S"
  (all_goals (try dsimp only)); (all_goals (try k_unfold)); (all_goals (try dsimp only))
  exact retM (by assumption) (by assumption) (fun kF kN => ret _ _ _ _ _ _ (by k_extra "sm") kF (news_pick kN (by k_mem)))

theorem rl_Lin2_4 : True := by
  k_with "call ref" => (k_here; (with_reducible show wpAny _ _ (call (Value.ref 332) _) _ _ _); k_dflt (refine' lin_share0_spec ?cBzq ?cFzq ?cXzq ?cNzq ?cTzq ?ckzq ?cdzq ?cuzq ?p0zq ?_; (case cBzq => k_asm); (case cFzq => k_asm); (case cXzq => k_asm); (case cNzq => k_asm); (case cTzq => k_asm); (case ckzq => first | rfl | assumption); (case cdzq => k_extra "om"); (case cuzq => k_extra "om"); (case p0zq => (exact LinAt.keeps (by assumption) (Fr.keep (by k_asm)))); k_whole; intro _ _ _ _; (try k_sweep)))
  k_with "call ref" => (k_here; (with_reducible show wpAny _ _ (call (Value.ref 278) _) _ _ _); k_dflt (refine' last_colour_spec ?cBzq ?cFzq ?cXzq ?cNzq ?cTzq ?ckzq ?cdzq ?cuzq ?p0zq ?p1zq ?p2zq ?_; (case cBzq => k_asm); (case cFzq => k_asm); (case cXzq => k_asm); (case cNzq => k_asm); (case cTzq => k_asm); (case ckzq => first | rfl | assumption); (case cdzq => k_extra "om"); (case cuzq => k_extra "om"); (case p0zq => (exact StopsAt.keeps (by assumption) (Fr.keep (by k_asm)))); (case p1zq => assumption); (case p2zq => assumption); k_whole; intro _ _ _ _ _ _ _ _ _; (try k_sweep)))
  trivial
theorem lin_colour0_spec {v vs vp vm : Value} {k : Kd} {rows : List Row} {x y : Int} {r : Row} {t1 t2 : Tok} (zB : Below A₀ base outer h₀) (zF : Fr h₀ L s.heap m) (zX : (hd.heap_39 w.params).In h₀) (zN : News h₀ L s.heap news) (zT : Top p loose mean mg mb h₀) (zk : cs.kind = .function) (hd : dp + 14 < recursionLimit) (hu : un + 280 < cLine) (hv : LinAt s.heap v vs vp vm k 0 0) (hst : StopsAt s.heap vs rows) (hx : rows.getLast? = some r) (hok : r.ok)
    (ret : ∀ y t1 t2 t3 t4 s', Sm s s' → Fr h₀ L s'.heap m → News h₀ L s'.heap ((y, fourO (wgt r.r r.al) (wgt r.g r.al) (wgt r.b r.al) r.al t1 t2 t3 t4) :: news) → Q (.ref y) s') :
    wpAny (model prog w) (ktrTop dp un gd cn cs L a ccd cl outer) (call (.ref 339) [v, .int x t1, .int y t2]) Q E s := by
  obtain ⟨vw, vz, tk, ⟨ix, dx, es, n, rfl, I, ⟨f1, f2, f3, f4, f5, f6, _⟩, ⟨n1, n2, _⟩⟩, hw, hz⟩ := id hv
  obtain ⟨l, vl, ⟨is, ds, ess, ns, rfl, Is, ⟨g1, _⟩, ⟨m1, m2, m3, _⟩⟩, il, hpp⟩ := id hst
  k_dflt (refine' enterM (mu := []) (binds := [(Str.ofString "self", .ref ix), (Str.ofString "x", .int x t1), (Str.ofString "y", .int y t2)]) zB zF zX zN (fun _ _ h => nomatch h) zT zk ?k6 ?k7 ?k8 ?k9 ?kB ?c2 ?c3 ?c4 ?c5 ?_; (case k6 => k_is); (case k7 => k_is); (case k8 => k_extra "om"); (case k9 => first | exact BindsTo.of_eq rfl | exact binds_K (Frag.In.keeps zX zF.keep) rfl (by k_is) rfl rfl rfl); (case c5 => decide); (case kB => exact locs rfl); (case c2 => exact rfl); (case c3 => exact rfl); (case c4 => exact rfl); k_whole; intro gg gL gs gS gG gF gN gB gX gT gA gE; (try dsimp only); (try k_fold))
  have I := inst_keeps I fun b o e => gG b o e (fun h => nomatch h)
  have Is := inst_keeps Is fun b o e => gG b o e (fun h => nomatch h)
  have hv := hv.keeps fun b o e => gG b o e (fun h => nomatch h)
  have hst := hst.keeps fun b o e => gG b o e (fun h => nomatch h)
  clear hw hz il hpp
  k_extra "S"
  (all_goals (try dsimp only)); (all_goals (try k_unfold)); (all_goals (try dsimp only))
  exact retM (by assumption) (by assumption) (fun kF kN => ret _ _ _ _ _ _ (by k_extra "sm") kF (news_pick kN (by k_mem)))
end
end
end Mine

namespace Mine
section



section
variable {prog : Program} {w : World} {p : Program} {loose : List Str} {mean : ExcName → Option Value} {mg mb : Str → Option Value}
  {dp un : Nat} {gd : Option (List Code)} {cn : Str} {cs : Scope} {a : Addr} {ccd : Value} {cl : List (Str × Addr)} {outer : List Env} {A₀ : Around} {base h₀ : Heap} {L : Addr}
  {m : Str → Option Value} {news : List (Addr × Obj)} {s : Shared} {Q E : Value → Shared → Prop}

theorem focus_within_spec {va vr : Value} {tb : Tok} {A B R : Int} (zB : Below A₀ base outer h₀) (zF : Fr h₀ L s.heap m) (zX : (hd.heap_39 w.params).In h₀) (zN : News h₀ L s.heap news) (zT : Top p loose mean mg mb h₀) (zk : cs.kind = .function) (hd : dp + 6 < recursionLimit) (hu : un + 120 < cLine) (ha : PtAt s.heap va A 1 B 1) (hr : FracAt s.heap vr R 1) (b1 : -(2 ^ 6) < A ∧ A < 2 ^ 6) (b2 : -(2 ^ 6) < B ∧ B < 2 ^ 6) (b3 : 0 < R ∧ R < 2 ^ 6)
    (hlt : A * A + B * B < R * R)
    (ret : ∀ s', Sm s s' → Fr h₀ L s'.heap m → News h₀ L s'.heap news → Q va s') :
    wpAny (model prog w) (ktrTop dp un gd cn cs L a ccd cl outer) (call (.ref 360) [va, vr, .int 256 tb]) Q E s := by
  have q1 := mul_bd (x := A) (y := A) (a := 2 ^ 6) (b := 2 ^ 6) b1 b1
  have q2 := mul_bd (x := B) (y := B) (a := 2 ^ 6) (b := 2 ^ 6) b2 b2
  have q3 := mul_bd (x := R) (y := R) (a := 2 ^ 6) (b := 2 ^ 6) (by k_extra "om") (by k_extra "om")
  have hs : Int.sign ((A * A + B * B) * (1 * 1) - R * R * 1) < 0 := by
    rw [sgn_neg]; omega
  k_dflt (refine' enterM (mu := []) (binds := [(Str.ofString "away", va), (Str.ofString "radius", vr), (Str.ofString "bottom", .int 256 tb)]) zB zF zX zN (fun _ _ h => nomatch h) zT zk ?k6 ?k7 ?k8 ?k9 ?kB ?c2 ?c3 ?c4 ?c5 ?_; (case k6 => k_is); (case k7 => k_is); (case k8 => k_extra "om"); (case k9 => first | exact BindsTo.of_eq rfl | exact binds_K (Frag.In.keeps zX zF.keep) rfl (by k_is) rfl rfl rfl); (case c5 => decide); (case kB => exact locs rfl); (case c2 => exact rfl); (case c3 => exact rfl); (case c4 => exact rfl); k_whole; intro gg gL gs gS gG gF gN gB gX gT gA gE; (try dsimp only); (try k_fold))
  have ha := ha.gsub gG
  have hr := hr.gsub gG
  k_extra "S"
  (all_goals (try dsimp only)); (all_goals (try k_unfold)); (all_goals (try dsimp only))
  exact retM (by assumption) (by assumption) (fun kF kN => ret _ (by k_extra "sm") kF (news_drop kN))

/-- what a Radial holds of its own: middle (cx, cy) + (A, B) is its focus, in half places X, Y -/
inductive RadAt (h : Heap) (v vs vr vm : Value) (k : Kd) (R A B X Y : Int) : Prop
  | mk (va : _) (vf : _) (vo : _) (tk : _) (q1 : ObjAt h v 392 [(Str.ofString "stops", vs), (Str.ofString "kind", .str k.str tk), (Str.ofString "inverse", vm), (Str.ofString "bottom", .int 256 671), (Str.ofString "radius", vr), (Str.ofString "away", va), (Str.ofString "focus", vf), (Str.ofString "room", vo)] [Str.ofString "share_at", Str.ofString "colour_at"]) (q2 : PtAt h va A 1 B 1) (q3 : PtAt h vf X 2 Y 2) (q4 : FracAt h vo (R * R - (A * A + B * B)) 1) : RadAt h v vs vr vm k R A B X Y
theorem RadAt.keeps {h h' : Heap} {v vs vr vm : Value} {k : Kd} {R A B X Y : Int} (x : RadAt h v vs vr vm k R A B X Y) (hk : ∀ b o, h.get? b = some o → h'.get? b = some o) : RadAt h' v vs vr vm k R A B X Y := let ⟨va, vf, vo, tk, o, p, f, g⟩ := x; ⟨va, vf, vo, tk, o.keeps hk, p.keeps hk, f.keeps hk, g.keeps hk⟩

theorem foc_eq {X A Y : Int} (h : Y = X + 2 * A) : fr1 (X * 1 + A * 2) (2 * 1) = fr1 Y 2 ∧ fr2 (X * 1 + A * 2) (2 * 1) = fr2 Y 2 := by
  refine fr_eq (by k_extra "om") (by k_extra "om") ?_; omega
theorem room_eq {R A : Int} : fr1 (R * 1 - A * (1 * 1)) (1 * 1 * 1) = fr1 (R - A) 1 ∧ fr2 (R * 1 - A * (1 * 1)) (1 * 1 * 1) = fr2 (R - A) 1 := by
  refine fr_eq (by k_extra "om") (by k_extra "om") ?_; omega

theorem rl_Rad_5 : True := by
  k_with "call ref" => (k_here; (with_reducible show wpAny _ _ (call (Value.ref 360) _) _ _ _); k_dflt (refine' focus_within_spec ?cBzq ?cFzq ?cXzq ?cNzq ?cTzq ?ckzq ?cdzq ?cuzq ?p0zq ?p1zq ?p2zq ?p3zq ?p4zq ?p5zq ?_; (case cBzq => k_asm); (case cFzq => k_asm); (case cXzq => k_asm); (case cNzq => k_asm); (case cTzq => k_asm); (case ckzq => first | rfl | assumption); (case cdzq => k_extra "om"); (case cuzq => k_extra "om"); (case p0zq => (first | exact PtAt.keeps (by with_reducible assumption) (Fr.keep (by k_asm)) | exact pt_news (by k_asm) (by k_mem) (by k_mem) (by k_mem))); (case p1zq => (first | exact FracAt.keeps (by with_reducible assumption) (Fr.keep (by k_asm)) | exact frac_news (by k_asm) (by k_mem) | exact zero_at (Frag.In.keeps (by with_reducible assumption) (Fr.keep (by with_reducible assumption))) | exact one_at (Frag.In.keeps (by with_reducible assumption) (Fr.keep (by with_reducible assumption))) | assumption)); (case p2zq => assumption); (case p3zq => assumption); (case p4zq => k_extra "om"); (case p5zq => assumption); k_whole; intro _ _ _ _; (try k_sweep)))
  trivial

theorem mkradial_spec {vs vc vr vf vm : Value} {k : Kd} {tk : Tok} {cx cy fx fy A B R : Int} (zB : Below A₀ base outer h₀) (zF : Fr h₀ L s.heap m) (zX : (hd.heap_39 w.params).In h₀) (zN : News h₀ L s.heap news) (zT : Top p loose mean mg mb h₀) (zk : cs.kind = .function) (hd : dp + 9 < recursionLimit) (hu : un + 180 < cLine) (hc : PtAt s.heap vc cx 2 cy 2) (hf : PtAt s.heap vf fx 2 fy 2) (hr : FracAt s.heap vr R 1) (hA : fx - cx = 2 * A) (hB : fy - cy = 2 * B)
    (b1 : -(2 ^ 8) < cx ∧ cx < 2 ^ 8) (b2 : -(2 ^ 8) < cy ∧ cy < 2 ^ 8) (b3 : -(2 ^ 8) < fx ∧ fx < 2 ^ 8) (b4 : -(2 ^ 8) < fy ∧ fy < 2 ^ 8) (b5 : -(2 ^ 6) < A ∧ A < 2 ^ 6) (b6 : -(2 ^ 6) < B ∧ B < 2 ^ 6) (bR : 0 ≤ R ∧ R < 2 ^ 6) (hlt : R = 0 ∨ (0 < R ∧ A * A + B * B < R * R))
    (ret : ∀ v own s', Holds w own (fun h => RadAt h v vs vr vm k R A B fx fy) → (∀ q ∈ own, s.heap.get? q.1 = none) → Sm s s' → Fr h₀ L s'.heap m → News h₀ L s'.heap (own ++ news) → Q v s') :
    wpAny (model prog w) (ktrTop dp un gd cn cs L a ccd cl outer) (call (.ref 392) [vs, vc, vr, vf, .str k.str tk, vm]) Q E s := by
  obtain ⟨ca, c1, c2, rfl, ci, cj, ck⟩ := id hc
  obtain ⟨fa, rfl⟩ := hf.isRef
  obtain ⟨ra, rfl⟩ := hr.isRef
  have q1 := mul_bd (x := A) (y := A) (a := 2 ^ 6) (b := 2 ^ 6) b5 b5
  have q2 := mul_bd (x := B) (y := B) (a := 2 ^ 6) (b := 2 ^ 6) b6 b6
  have q3 := mul_bd (x := R) (y := R) (a := 2 ^ 6) (b := 2 ^ 6) (by k_extra "om") (by k_extra "om")
  have hs1 : ¬ Int.sign (R * 1 - 0 * 1) < 0 := by rw [sgn_neg]; omega
  rcases hlt with hR | ⟨hR, hlt⟩
  · have hs2 : ¬ 0 < Int.sign (R * 1 - 0 * 1) := by rw [sgn_pos]; omega
    k_dflt (refine' makeM (binds := fun x => [(Str.ofString "self", .ref x), (Str.ofString "stops", vs), (Str.ofString "centre", .ref ca), (Str.ofString "radius", .ref ra), (Str.ofString "focus", .ref fa), (Str.ofString "kind", .str k.str tk), (Str.ofString "inverse", vm), (Str.ofString "bottom", .int 256 671)]) zB zF zX zN zT zk ?m1 ?m2 ?m3 ?k6 ?k7 ?k8 ?k9 ?kB ?c2 ?c3 ?c4 ?c5 ?_; (case m1 => k_is); (case m2 => k_is); (case m3 => k_is); (case k6 => k_is); (case k7 => k_is); (case k8 => k_extra "om"); (case k9 => intro _ _ hXX; first | exact BindsTo.of_eq rfl | exact binds_K hXX rfl (by k_is) rfl rfl rfl); (case c5 => decide); (case kB => intro _; exact locs rfl); (case c2 => exact rfl); (case c3 => exact rfl); (case c4 => exact rfl); k_whole; intro gg gL gs ix dx gS lx gG gF gN gB gX gT gA gE; (replace lx := ltN lx); (try dsimp only); (try k_fold))
    have hc := hc.keeps gG
    have hf := hf.keeps gG
    have hr := hr.keeps gG
    have ci := ci.keeps gG
    have cj := cj.keeps gG
    have ck := ck.keeps gG
    k_extra "S"
    (all_goals (try dsimp only)); (all_goals (try k_unfold)); (all_goals (try dsimp only))
    have e5 := fun u1 u2 => frO_of (foc_eq (X := cx) (A := A) (Y := fx) (by k_extra "om")) u1 u2
    have e6 := fun u1 u2 => frO_of (foc_eq (X := cy) (A := B) (Y := fy) (by k_extra "om")) u1 u2
    have e7 := fun u1 u2 => frO_of (room_eq (R := R * R) (A := A * A + B * B)) u1 u2
    rename News gg _ _ _ => N0
    refine retM (by assumption) N0 (fun kF kN => ?_)
    rw [e5, e6, e7] at kN N0
    refine ⟨rfl, ret _ _ _ (fun h X hh => ⟨_, _, _, _, ObjAt.make hh (by k_mem) (by k_mem) ⟨rfl, rfl, rfl, rfl, rfl, rfl, rfl, rfl, trivial⟩ ⟨rfl, rfl, trivial⟩, ?_, ?_, ?_⟩) (fresh_of N0 gG) (by k_extra "sm") kF kN⟩
    · exact ⟨_, _, _, rfl, tup_own hh (by k_mem), ⟨_, _, _, rfl, tup_own hh (by k_mem)⟩, ⟨_, _, _, rfl, tup_own hh (by k_mem)⟩⟩
    · exact ⟨_, _, _, rfl, tup_own hh (by k_mem), ⟨_, _, _, rfl, tup_own hh (by k_mem)⟩, ⟨_, _, _, rfl, tup_own hh (by k_mem)⟩⟩
    · exact ⟨_, _, _, rfl, tup_own hh (by k_mem)⟩
  · have hs2 : 0 < Int.sign (R * 1 - 0 * 1) := by rw [sgn_pos]; omega
    k_dflt (refine' makeM (binds := fun x => [(Str.ofString "self", .ref x), (Str.ofString "stops", vs), (Str.ofString "centre", .ref ca), (Str.ofString "radius", .ref ra), (Str.ofString "focus", .ref fa), (Str.ofString "kind", .str k.str tk), (Str.ofString "inverse", vm), (Str.ofString "bottom", .int 256 671)]) zB zF zX zN zT zk ?m1 ?m2 ?m3 ?k6 ?k7 ?k8 ?k9 ?kB ?c2 ?c3 ?c4 ?c5 ?_; (case m1 => k_is); (case m2 => k_is); (case m3 => k_is); (case k6 => k_is); (case k7 => k_is); (case k8 => k_extra "om"); (case k9 => intro _ _ hXX; first | exact BindsTo.of_eq rfl | exact binds_K hXX rfl (by k_is) rfl rfl rfl); (case c5 => decide); (case kB => intro _; exact locs rfl); (case c2 => exact rfl); (case c3 => exact rfl); (case c4 => exact rfl); k_whole; intro gg gL gs ix dx gS lx gG gF gN gB gX gT gA gE; (replace lx := ltN lx); (try dsimp only); (try k_fold))
    have hc := hc.keeps gG
    have hf := hf.keeps gG
    have hr := hr.keeps gG
    have ci := ci.keeps gG
    have cj := cj.keeps gG
    have ck := ck.keeps gG
    k_extra "S"
    (all_goals (try dsimp only)); (all_goals (try k_unfold)); (all_goals (try dsimp only))
    have e5 := fun u1 u2 => frO_of (foc_eq (X := cx) (A := A) (Y := fx) (by k_extra "om")) u1 u2
    have e6 := fun u1 u2 => frO_of (foc_eq (X := cy) (A := B) (Y := fy) (by k_extra "om")) u1 u2
    have e7 := fun u1 u2 => frO_of (room_eq (R := R * R) (A := A * A + B * B)) u1 u2
    rename News gg _ _ _ => N0
    refine retM (by assumption) N0 (fun kF kN => ?_)
    rw [e5, e6, e7] at kN N0
    refine ⟨rfl, ret _ _ _ (fun h X hh => ⟨_, _, _, _, ObjAt.make hh (by k_mem) (by k_mem) ⟨rfl, rfl, rfl, rfl, rfl, rfl, rfl, rfl, trivial⟩ ⟨rfl, rfl, trivial⟩, ?_, ?_, ?_⟩) (fresh_of N0 gG) (by k_extra "sm") kF kN⟩
    · exact ⟨_, _, _, rfl, tup_own hh (by k_mem), ⟨_, _, _, rfl, tup_own hh (by k_mem)⟩, ⟨_, _, _, rfl, tup_own hh (by k_mem)⟩⟩
    · exact ⟨_, _, _, rfl, tup_own hh (by k_mem), ⟨_, _, _, rfl, tup_own hh (by k_mem)⟩, ⟨_, _, _, rfl, tup_own hh (by k_mem)⟩⟩
    · exact ⟨_, _, _, rfl, tup_own hh (by k_mem)⟩
end
end
end Mine

namespace Mine
section


section
variable {prog : Program} {w : World} {p : Program} {loose : List Str} {mean : ExcName → Option Value} {mg mb : Str → Option Value}
  {dp un : Nat} {gd : Option (List Code)} {cn : Str} {cs : Scope} {a : Addr} {ccd : Value} {cl : List (Str × Addr)} {outer : List Env} {A₀ : Around} {base h₀ : Heap} {L : Addr}
  {m : Str → Option Value} {news : List (Addr × Obj)} {s : Shared} {Q E : Value → Shared → Prop}
theorem root_of_gen {va : Value} {N D k : Int} {tb : Tok} (zB : Below A₀ base outer h₀) (zF : Fr h₀ L s.heap m) (zX : (hd.heap_39 w.params).In h₀) (zN : News h₀ L s.heap news) (zT : Top p loose mean mg mb h₀) (zk : cs.kind = .function) (hd : dp + 5 < recursionLimit) (hu : un + 100 < cLine) (ha : FracAt s.heap va N D) (hN : N = k * k * D) (hD : 0 < D) (h1 : 0 ≤ k ∧ k < 2 ^ 14)
    (ret : ∀ r u1 u2 s', Sm s s' → Fr h₀ L s'.heap m → News h₀ L s'.heap ((r, frO k 1 u1 u2) :: news) → Q (.ref r) s') :
    wpAny (model prog w) (ktrTop dp un gd cn cs L a ccd cl outer) (call (.ref 353) [va, .int 256 tb]) Q E s :=
  root_of_spec zB zF zX zN zT zk hd hu (ha.eq (fr_eq hD (by k_extra "om") (by rw [hN]; omega))) h1 ret

theorem rl_Rad2_3 : True := by
  k_with "call ref" => (k_here; (with_reducible show wpAny _ _ (call (Value.ref 353) _) _ _ _); k_dflt (refine' root_of_gen ?cBzq ?cFzq ?cXzq ?cNzq ?cTzq ?ckzq ?cdzq ?cuzq ?p0zq ?p1zq ?p2zq ?p3zq ?_; (case cBzq => k_asm); (case cFzq => k_asm); (case cXzq => k_asm); (case cNzq => k_asm); (case cTzq => k_asm); (case ckzq => first | rfl | assumption); (case cdzq => k_extra "om"); (case cuzq => k_extra "om"); (case p0zq => (first | exact FracAt.keeps (by with_reducible assumption) (Fr.keep (by k_asm)) | exact frac_news (by k_asm) (by k_mem) | exact zero_at (Frag.In.keeps (by with_reducible assumption) (Fr.keep (by with_reducible assumption))) | exact one_at (Frag.In.keeps (by with_reducible assumption) (Fr.keep (by with_reducible assumption))) | assumption)); (case p1zq => assumption); (case p2zq => k_extra "om"); (case p3zq => k_extra "om"); k_whole; intro _ _ _ _ _ _ _; (try k_sweep)))
  trivial

theorem rad_share_spec {v vs vr vm : Value} {k : Kd} {R A B X Y x y pp qq K C D : Int} {t1 t2 : Tok} (zB : Below A₀ base outer h₀) (zF : Fr h₀ L s.heap m) (zX : (hd.heap_39 w.params).In h₀) (zN : News h₀ L s.heap news) (zT : Top p loose mean mg mb h₀) (zk : cs.kind = .function) (hd : dp + 10 < recursionLimit) (hu : un + 200 < cLine) (hv : RadAt s.heap v vs vr vm k R A B (2 * X + 1) (2 * Y + 1)) (hr : FracAt s.heap vr R 1) (hm : MatAt s.heap vm)
    (b1 : -(2 ^ 6) < X ∧ X < 2 ^ 6) (b2 : -(2 ^ 6) < Y ∧ Y < 2 ^ 6) (b3 : -(2 ^ 6) < x ∧ x < 2 ^ 6) (b4 : -(2 ^ 6) < y ∧ y < 2 ^ 6) (b5 : -(2 ^ 6) < A ∧ A < 2 ^ 6) (b6 : -(2 ^ 6) < B ∧ B < 2 ^ 6) (bR : 0 < R ∧ R < 2 ^ 6)
    (hp : x - X = pp) (hq : y - Y = qq) (hM : 0 < R * R - (A * A + B * B)) (hK : (A * pp + B * qq) * (A * pp + B * qq) + (pp * pp + qq * qq) * (R * R - (A * A + B * B)) = K * K) (bK : 0 ≤ K ∧ K < 2 ^ 14)
    (hC : (A * pp + B * qq + K) * D = C * (R * R - (A * A + B * B))) (hD : 0 < D)
    (ret : ∀ r u1 u2 s', Sm s s' → Fr h₀ L s'.heap m → News h₀ L s'.heap ((r, frO C D u1 u2) :: news) → Q (.ref r) s') :
    wpAny (model prog w) (ktrTop dp un gd cn cs L a ccd cl outer) (call (.ref 382) [v, .int x t1, .int y t2]) Q E s := by
  obtain ⟨va, vf, vo, tk, ⟨ix, dx, es, n, rfl, I, ⟨f1, f2, f3, f4, f5, f6, f7, f8, _⟩, ⟨n1, n2, _⟩⟩, hva, hvf, hvo⟩ := hv
  obtain ⟨ra, rfl⟩ := hr.isRef
  obtain ⟨im, dm, em, nm, rfl, Im, mf, ⟨m1, m2, _⟩⟩ := id hm
  obtain ⟨aa, rfl⟩ := hva.isRef
  obtain ⟨fa, rfl⟩ := hvf.isRef
  obtain ⟨oa, rfl⟩ := hvo.isRef
  have q1 := mul_bd (x := A) (y := A) (a := 2 ^ 6) (b := 2 ^ 6) b5 b5
  have q2 := mul_bd (x := B) (y := B) (a := 2 ^ 6) (b := 2 ^ 6) b6 b6
  have q3 := mul_bd (x := R) (y := R) (a := 2 ^ 6) (b := 2 ^ 6) (by k_extra "om") (by k_extra "om")
  have q4 := mul_bd (x := A) (y := pp) (a := 2 ^ 6) (b := 2 ^ 7) b5 (by k_extra "om")
  have q5 := mul_bd (x := B) (y := qq) (a := 2 ^ 6) (b := 2 ^ 7) b6 (by k_extra "om")
  have q6 := mul_bd (x := pp) (y := pp) (a := 2 ^ 7) (b := 2 ^ 7) (by k_extra "om") (by k_extra "om")
  have q7 := mul_bd (x := qq) (y := qq) (a := 2 ^ 7) (b := 2 ^ 7) (by k_extra "om") (by k_extra "om")
  have q8 := mul_bd (x := A * pp + B * qq) (y := A * pp + B * qq) (a := 2 ^ 14) (b := 2 ^ 14) (by k_extra "om") (by k_extra "om")
  have q9 := mul_bd (x := pp * pp + qq * qq) (y := R * R - (A * A + B * B)) (a := 2 ^ 15) (b := 2 ^ 14) (by k_extra "om") (by k_extra "om")
  have hl1 : (2 * x + 1) - (2 * X + 1) = 2 * pp := by k_extra "om"
  have hl2 : (2 * y + 1) - (2 * Y + 1) = 2 * qq := by k_extra "om"
  have hs : Int.sign (R * 1 - 0 * 1) ≠ 0 := by
    rw [Ne, sgn_zero]; omega
  have hK' : (A * pp + B * qq) * (A * pp + B * qq) * (1 * 1) + (pp * pp + qq * qq) * (R * R - (A * A + B * B)) * (1 * 1) = K * K * (1 * 1 * (1 * 1)) := by
    simp only [Int.mul_one]; exact hK
  k_dflt (refine' enterM (mu := []) (binds := [(Str.ofString "self", .ref ix), (Str.ofString "x", .int x t1), (Str.ofString "y", .int y t2)]) zB zF zX zN (fun _ _ h => nomatch h) zT zk ?k6 ?k7 ?k8 ?k9 ?kB ?c2 ?c3 ?c4 ?c5 ?_; (case k6 => k_is); (case k7 => k_is); (case k8 => k_extra "om"); (case k9 => first | exact BindsTo.of_eq rfl | exact binds_K (Frag.In.keeps zX zF.keep) rfl (by k_is) rfl rfl rfl); (case c5 => decide); (case kB => exact locs rfl); (case c2 => exact rfl); (case c3 => exact rfl); (case c4 => exact rfl); k_whole; intro gg gL gs gS gG gF gN gB gX gT gA gE; (try dsimp only); (try k_fold))
  have I := inst_keeps I fun b o e => gG b o e (fun h => nomatch h)
  have Im := inst_keeps Im fun b o e => gG b o e (fun h => nomatch h)
  have hm := hm.gsub gG
  have hr := hr.gsub gG
  have hva := hva.gsub gG
  have hvf := hvf.gsub gG
  have hvo := hvo.gsub gG
  k_extra "S"
  (all_goals (try dsimp only)); (all_goals (try k_unfold)); (all_goals (try dsimp only))
  · exact absurd (by assumption) hs
  · have e6 := fun u1 u2 => frO_of (fr_eq (A := ((A * pp + B * qq) * 1 + K * 1) * 1) (B := 1 * 1 * (R * R - (A * A + B * B))) (C := C) (D := D) (by k_extra "om") hD (by rw [Int.one_mul, Int.one_mul, Int.mul_one, Int.mul_one, Int.mul_one]; exact hC)) u1 u2
    refine retM (by assumption) (by assumption) (fun kF kN => ?_)
    rw [e6] at kN
    exact ret _ _ _ _ (by k_extra "sm") kF (news_pick kN (by k_mem))

/-- a Radial without a radius -/
theorem rad_share0_spec {v vs vr vm : Value} {k : Kd} {A B X Y x y : Int} {t1 t2 : Tok} (zB : Below A₀ base outer h₀) (zF : Fr h₀ L s.heap m) (zX : (hd.heap_39 w.params).In h₀) (zN : News h₀ L s.heap news) (zT : Top p loose mean mg mb h₀) (zk : cs.kind = .function) (hd : dp + 10 < recursionLimit) (hu : un + 200 < cLine) (hv : RadAt s.heap v vs vr vm k 0 A B X Y) (hr : FracAt s.heap vr 0 1)
    (ret : ∀ s', Sm s s' → Fr h₀ L s'.heap m → News h₀ L s'.heap news → Q .none s') :
    wpAny (model prog w) (ktrTop dp un gd cn cs L a ccd cl outer) (call (.ref 382) [v, .int x t1, .int y t2]) Q E s := by
  obtain ⟨va, vf, vo, tk, ⟨ix, dx, es, n, rfl, I, ⟨f1, f2, f3, f4, f5, f6, f7, f8, _⟩, ⟨n1, n2, _⟩⟩, hva, hvf, hvo⟩ := hv
  obtain ⟨ra, rfl⟩ := hr.isRef
  clear hva hvf hvo
  k_dflt (refine' enterM (mu := []) (binds := [(Str.ofString "self", .ref ix), (Str.ofString "x", .int x t1), (Str.ofString "y", .int y t2)]) zB zF zX zN (fun _ _ h => nomatch h) zT zk ?k6 ?k7 ?k8 ?k9 ?kB ?c2 ?c3 ?c4 ?c5 ?_; (case k6 => k_is); (case k7 => k_is); (case k8 => k_extra "om"); (case k9 => first | exact BindsTo.of_eq rfl | exact binds_K (Frag.In.keeps zX zF.keep) rfl (by k_is) rfl rfl rfl); (case c5 => decide); (case kB => exact locs rfl); (case c2 => exact rfl); (case c3 => exact rfl); (case c4 => exact rfl); k_whole; intro gg gL gs gS gG gF gN gB gX gT gA gE; (try dsimp only); (try k_fold))
  have I := inst_keeps I fun b o e => gG b o e (fun h => nomatch h)
  have hr := hr.gsub gG
  k_extra "S"
  (all_goals (try dsimp only)); (all_goals (try k_unfold)); (all_goals (try dsimp only))
  exact retM (by assumption) (by assumption) (fun kF kN => ret _ (by k_extra "sm") kF (news_drop kN))

theorem rl_Rad2_4 : True := by
  k_with "call ref" => (k_here; (with_reducible show wpAny _ _ (call (Value.ref 382) _) _ _ _); k_dflt (refine' rad_share_spec ?cBzq ?cFzq ?cXzq ?cNzq ?cTzq ?ckzq ?cdzq ?cuzq ?p0zq ?p1zq ?p2zq ?p3zq ?p4zq ?p5zq ?p6zq ?p7zq ?p8zq ?p9zq ?p10zq ?p11zq ?p12zq ?p13zq ?p14zq ?p15zq ?p16zq ?_; (case cBzq => k_asm); (case cFzq => k_asm); (case cXzq => k_asm); (case cNzq => k_asm); (case cTzq => k_asm); (case ckzq => first | rfl | assumption); (case cdzq => k_extra "om"); (case cuzq => k_extra "om"); (case p0zq => (exact RadAt.keeps (by assumption) (Fr.keep (by k_asm)))); (case p1zq => (first | exact FracAt.keeps (by with_reducible assumption) (Fr.keep (by k_asm)) | exact frac_news (by k_asm) (by k_mem) | exact zero_at (Frag.In.keeps (by with_reducible assumption) (Fr.keep (by with_reducible assumption))) | exact one_at (Frag.In.keeps (by with_reducible assumption) (Fr.keep (by with_reducible assumption))) | assumption)); (case p2zq => (exact ObjAt.keeps (by assumption) (Fr.keep (by k_asm)))); (case p3zq => assumption); (case p4zq => assumption); (case p5zq => assumption); (case p6zq => assumption); (case p7zq => assumption); (case p8zq => assumption); (case p9zq => assumption); (case p10zq => assumption); (case p11zq => assumption); (case p12zq => assumption); (case p13zq => assumption); (case p14zq => assumption); (case p15zq => assumption); (case p16zq => k_extra "om"); k_whole; intro _ _ _ _ _ _ _; (try k_sweep)))
  trivial

theorem rad_colour_spec {v vs vr vm : Value} {k : Kd} {rows : List Row} {R A B X Y x y pp qq K C D : Int} {t1 t2 : Tok} (zB : Below A₀ base outer h₀) (zF : Fr h₀ L s.heap m) (zX : (hd.heap_39 w.params).In h₀) (zN : News h₀ L s.heap news) (zT : Top p loose mean mg mb h₀) (zk : cs.kind = .function) (hd : dp + 14 < recursionLimit) (hu : un + 280 < cLine) (hv : RadAt s.heap v vs vr vm k R A B (2 * X + 1) (2 * Y + 1)) (hfr : FracAt s.heap vr R 1) (hm : MatAt s.heap vm)
    (hst : StopsAt s.heap vs rows) (hr : ∀ x ∈ rows, x.ok ∧ 0 ≤ x.o ∧ x.o ≤ 8) (hn : rows ≠ []) (hn4 : rows.length ≤ 4)
    (b1 : -(2 ^ 6) < X ∧ X < 2 ^ 6) (b2 : -(2 ^ 6) < Y ∧ Y < 2 ^ 6) (b3 : -(2 ^ 6) < x ∧ x < 2 ^ 6) (b4 : -(2 ^ 6) < y ∧ y < 2 ^ 6) (b5 : -(2 ^ 6) < A ∧ A < 2 ^ 6) (b6 : -(2 ^ 6) < B ∧ B < 2 ^ 6) (bR : 0 < R ∧ R < 2 ^ 6)
    (hp : x - X = pp) (hq : y - Y = qq) (hM : 0 < R * R - (A * A + B * B)) (hK : (A * pp + B * qq) * (A * pp + B * qq) + (pp * pp + qq * qq) * (R * R - (A * A + B * B)) = K * K) (bK : 0 ≤ K ∧ K < 2 ^ 14)
    (hC : (A * pp + B * qq + K) * D = C * (R * R - (A * A + B * B))) (hD : 0 < D ∧ D < 2 ^ 6) (hT : -(2 ^ 10) < C ∧ C < 2 ^ 10)
    (ret : ∀ z t1 t2 t3 t4 s', Sm s s' → Fr h₀ L s'.heap m → News h₀ L s'.heap ((z, colO (colP rows (spr k C D) D) t1 t2 t3 t4) :: news) → Q (.ref z) s') :
    wpAny (model prog w) (ktrTop dp un gd cn cs L a ccd cl outer) (call (.ref 389) [v, .int x t1, .int y t2]) Q E s := by
  obtain ⟨va, vf, vo, tk, ⟨ix, dx, es, n, rfl, I, ⟨f1, f2, f3, f4, f5, f6, f7, f8, _⟩, ⟨n1, n2, _⟩⟩, hva, hvf, hvo⟩ := id hv
  obtain ⟨l, vl, ⟨is, ds, ess, ns, rfl, Is, ⟨g1, _⟩, ⟨m1, m2, m3, _⟩⟩, il, hpp⟩ := id hst
  have hsp := spr_bd (k := k) (T := C) hD.1
  k_dflt (refine' enterM (mu := []) (binds := [(Str.ofString "self", .ref ix), (Str.ofString "x", .int x t1), (Str.ofString "y", .int y t2)]) zB zF zX zN (fun _ _ h => nomatch h) zT zk ?k6 ?k7 ?k8 ?k9 ?kB ?c2 ?c3 ?c4 ?c5 ?_; (case k6 => k_is); (case k7 => k_is); (case k8 => k_extra "om"); (case k9 => first | exact BindsTo.of_eq rfl | exact binds_K (Frag.In.keeps zX zF.keep) rfl (by k_is) rfl rfl rfl); (case c5 => decide); (case kB => exact locs rfl); (case c2 => exact rfl); (case c3 => exact rfl); (case c4 => exact rfl); k_whole; intro gg gL gs gS gG gF gN gB gX gT gA gE; (try dsimp only); (try k_fold))
  have I := inst_keeps I fun b o e => gG b o e (fun h => nomatch h)
  have Is := inst_keeps Is fun b o e => gG b o e (fun h => nomatch h)
  have hv := hv.keeps fun b o e => gG b o e (fun h => nomatch h)
  have hm := hm.gsub gG
  have hfr := hfr.gsub gG
  have hst := hst.keeps fun b o e => gG b o e (fun h => nomatch h)
  clear hva hvf hvo il hpp
  k_extra "S"
  (all_goals (try dsimp only)); (all_goals (try k_unfold)); (all_goals (try dsimp only))
  exact retM (by assumption) (by assumption) (fun kF kN => ret _ _ _ _ _ _ (by k_extra "sm") kF (news_pick kN (by k_mem)))

theorem rl_Rad2_5 : True := by
  k_with "call ref" => (k_here; (with_reducible show wpAny _ _ (call (Value.ref 382) _) _ _ _); k_dflt (refine' rad_share0_spec ?cBzq ?cFzq ?cXzq ?cNzq ?cTzq ?ckzq ?cdzq ?cuzq ?p0zq ?p1zq ?_; (case cBzq => k_asm); (case cFzq => k_asm); (case cXzq => k_asm); (case cNzq => k_asm); (case cTzq => k_asm); (case ckzq => first | rfl | assumption); (case cdzq => k_extra "om"); (case cuzq => k_extra "om"); (case p0zq => (exact RadAt.keeps (by assumption) (Fr.keep (by k_asm)))); (case p1zq => (first | exact FracAt.keeps (by with_reducible assumption) (Fr.keep (by k_asm)) | exact frac_news (by k_asm) (by k_mem) | exact zero_at (Frag.In.keeps (by with_reducible assumption) (Fr.keep (by with_reducible assumption))) | exact one_at (Frag.In.keeps (by with_reducible assumption) (Fr.keep (by with_reducible assumption))) | assumption)); k_whole; intro _ _ _ _; (try k_sweep)))
  trivial
theorem rad_colour0_spec {v vs vr vm : Value} {k : Kd} {rows : List Row} {A B X Y x y : Int} {r : Row} {t1 t2 : Tok} (zB : Below A₀ base outer h₀) (zF : Fr h₀ L s.heap m) (zX : (hd.heap_39 w.params).In h₀) (zN : News h₀ L s.heap news) (zT : Top p loose mean mg mb h₀) (zk : cs.kind = .function) (hd : dp + 14 < recursionLimit) (hu : un + 280 < cLine) (hv : RadAt s.heap v vs vr vm k 0 A B X Y) (hr : FracAt s.heap vr 0 1) (hst : StopsAt s.heap vs rows) (hx : rows.getLast? = some r) (hok : r.ok)
    (ret : ∀ y t1 t2 t3 t4 s', Sm s s' → Fr h₀ L s'.heap m → News h₀ L s'.heap ((y, fourO (wgt r.r r.al) (wgt r.g r.al) (wgt r.b r.al) r.al t1 t2 t3 t4) :: news) → Q (.ref y) s') :
    wpAny (model prog w) (ktrTop dp un gd cn cs L a ccd cl outer) (call (.ref 389) [v, .int x t1, .int y t2]) Q E s := by
  obtain ⟨va, vf, vo, tk, ⟨ix, dx, es, n, rfl, I, ⟨f1, f2, f3, f4, f5, f6, f7, f8, _⟩, ⟨n1, n2, _⟩⟩, hva, hvf, hvo⟩ := id hv
  obtain ⟨l, vl, ⟨is, ds, ess, ns, rfl, Is, ⟨g1, _⟩, ⟨m1, m2, m3, _⟩⟩, il, hpp⟩ := id hst
  k_dflt (refine' enterM (mu := []) (binds := [(Str.ofString "self", .ref ix), (Str.ofString "x", .int x t1), (Str.ofString "y", .int y t2)]) zB zF zX zN (fun _ _ h => nomatch h) zT zk ?k6 ?k7 ?k8 ?k9 ?kB ?c2 ?c3 ?c4 ?c5 ?_; (case k6 => k_is); (case k7 => k_is); (case k8 => k_extra "om"); (case k9 => first | exact BindsTo.of_eq rfl | exact binds_K (Frag.In.keeps zX zF.keep) rfl (by k_is) rfl rfl rfl); (case c5 => decide); (case kB => exact locs rfl); (case c2 => exact rfl); (case c3 => exact rfl); (case c4 => exact rfl); k_whole; intro gg gL gs gS gG gF gN gB gX gT gA gE; (try dsimp only); (try k_fold))
  have I := inst_keeps I fun b o e => gG b o e (fun h => nomatch h)
  have Is := inst_keeps Is fun b o e => gG b o e (fun h => nomatch h)
  have hv := hv.keeps fun b o e => gG b o e (fun h => nomatch h)
  have hr := hr.gsub gG
  have hst := hst.keeps fun b o e => gG b o e (fun h => nomatch h)
  clear hva hvf hvo il hpp
  k_extra "S"
  (all_goals (try dsimp only)); (all_goals (try k_unfold)); (all_goals (try dsimp only))
  exact retM (by assumption) (by assumption) (fun kF kN => ret _ _ _ _ _ _ (by k_extra "sm") kF (news_pick kN (by k_mem)))
end
end
end Mine

namespace Mine
section
section
variable {prog : Program} {w : World} {A : Around} {E : Value → Shared → Prop} {s : Shared} {h₀ : Heap} {L : Addr} {m : Str → Option Value} {news : List (Addr × Obj)}
theorem applied_three {sl : Addr} {u : Tok} {Q : Int × Int × Nat → Shared → Prop} (hs : s.heap.IsSliceOf sl .none (.int 3 u) .none) (h : Q (0, 1, 3) s) :
    wpAny (model prog w) A (Builtin.Slice.sliceApplied (.ref sl) (pure 4)) Q E s := by
  obtain ⟨os, hos, hcs, hds⟩ := hs
  unfold Builtin.Slice.sliceApplied Builtin.Slice.sliceFields
  refine wpAny_bind (wpAny_bind (wpAny_field hos hds (x := .none) rfl (wpAny_bind (wpAny_field hos hds (x := .int 3 u) rfl (wpAny_bind (wpAny_field hos hds (x := .none) rfl (wpAny_pure ?_)))))))
  refine wpAny_bind (slicePart_none ?_)
  show wpAny _ _ (if ((1 : Int) == 0) = true then _ else _) _ _ s
  rw [if_neg (by decide)]
  refine wpAny_bind (slicePart_none (wpAny_bind (slicePart_int (wpAny_bind (wpAny_pure ?_)))))
  show wpAny _ _ (match Builtin.Slice.sliceAdjust none (some 3) 1 4 with | (lo, hi) => pure (lo, (1 : Int), Builtin.Slice.slicePlaces lo hi 1)) _ _ s
  rw [show Builtin.Slice.sliceAdjust none (some 3) 1 4 = (0, 3) by decide]
  show wpAny _ _ (pure ((0 : Int), (1 : Int), Builtin.Slice.slicePlaces 0 3 1)) _ _ s
  rw [show Builtin.Slice.slicePlaces 0 3 1 = 3 by decide]
  exact wpAny_pure h
theorem getItem_three {t sl : Addr} {x y z v : Value} {u : Tok} {Q : Value → Shared → Prop} (ht : IsTup s.heap t #[x, y, z, v]) (hs : s.heap.IsSliceOf sl .none (.int 3 u) .none)
    (h : Q (.ref s.heap.objs.size) { s with heap := s.heap.push { cls := .type "tuple", data := .seq #[x, y, z] } }) : wpAny (model prog w) A (getItem (.ref t) (.ref sl)) Q E s := by
  have hTs : s.TypeIs (.ref sl) "slice" := by obtain ⟨os, hos, hcs, _⟩ := hs; exact ⟨os, hos, hcs⟩
  have fit : sizeOk (.seq #[x, y, z]) := by
    show (3 : Nat) ≤ sizeLine
    rw [sizeLine_eq]; decide
  unfold getItem
  try with_reducible refine wpAny_holding ?_
  first | refine wpAny_bind (wpAny_pure ?_) | skip
  refine wpAny_bind (wpAny_sequenceKey ht.typeIs (by decide) ?_)
  refine wpAny_bind (wpAny_callSpecial?_slot (name := Str.ofString "__getitem__") ht.typeIs slot_tuple_getitem
    (wpAny_call_entry slot_tuple_getitem ht.typeIs entry_tuple_getitem ?_ (args_tuple_getitem _ _)))
  show wpAny _ _ (Builtin.Tuple.tupleItemsOf (.ref t) >>= _) _ _ s
  refine wpAny_bind (tupleItemsOf_ ht ?_)
  refine wpAny_bind (wpAny_typeOf hTs ?_)
  rw [if_pos (by decide)]
  refine wpAny_bind (applied_three hs ?_)
  show wpAny _ _ (if ((0 : Int) == 0 && (1 : Int) == 1 && ((3 : Nat) == 4)) = true then _ else _) _ _ s
  rw [if_neg (by decide)]
  show wpAny _ _ (((Builtin.Tuple.tupleExact #[x, y, z]) >>= _) >>= _) _ _ s
  first
    | exact wpAny_bind (m := Builtin.Tuple.tupleExact _) (wpAny_newObj_type (wpAny_pure ⟨_, rfl, wpAny_pure h⟩) fit)
    | exact wpAny_bind (m := Builtin.Tuple.tupleExact _) (wpAny_newObj_type (wpAny_bind (wpAny_pure (wpAny_pure ⟨_, rfl, wpAny_pure h⟩))) fit)
    | exact wpAny_bind (wpAny_bind (m := Builtin.Tuple.tupleExact _) (wpAny_newObj_type (wpAny_pure (wpAny_pure ⟨_, rfl, wpAny_pure h⟩)) fit))
    | exact wpAny_bind (wpAny_bind (m := Builtin.Tuple.tupleExact _) (wpAny_newObj_type (wpAny_pure ⟨_, rfl, wpAny_pure h⟩) fit))
theorem slice_three {value slice : Expr} {t : Addr} {x y z v : Value} {u : Tok} {Q : Value → Shared → Prop} (F : Fr h₀ L s.heap m) (N : News h₀ L s.heap news) (ht : IsTup s.heap t #[x, y, z, v])
    (h : ∀ D h', Fr h₀ L h' m → News h₀ L h' ((D, { cls := .type "tuple", data := .seq #[x, y, z] }) :: news) → (∀ p ∈ news, p.1 < D) → Q (.ref D) { s with heap := h' })
    (hs : subscripted slice false (.ref t) (.ref s.heap.objs.size) = operate [.ref s.heap.objs.size, .ref t] (getItem (.ref t) (.ref s.heap.objs.size)) := by with_unfolding_all rfl)
    (hg : ∀ r, letTemporaryGo value (.ref t) r = pure () := by intro _; with_unfolding_all rfl) :
    wpAny (model prog w) A (subscriptTail value slice (.ref t) (.ref s.heap.objs.size)) Q E { s with heap := s.heap.push { cls := .type "slice", data := .fields #[.none, .int 3 u, .none] } } := by
  have ht' : IsTup (s.heap.push { cls := .type "slice", data := .fields #[.none, .int 3 u, .none] }) t #[x, y, z, v] := ht.keeps fun _ _ e => Heap.get?_push_of_some _ e
  refine subscriptTail_ops (s := { s with heap := s.heap.push { cls := .type "slice", data := .fields #[.none, .int 3 u, .none] } }) ht'.typeIs slot_tuple_getitem.lookup
    (getItem_three ht' (Heap.IsSliceOf.new ..) ?_) hs hg
  have N1 := News.push (F.push { cls := .type "slice", data := .fields #[.none, .int 3 u, .none] }) (N.grown fun _ _ e => Heap.get?_push_of_some _ e) { cls := .type "tuple", data := .seq #[x, y, z] }
  refine h _ _ ((F.push _).push _) N1 fun p hp => ?_
  have := Heap.lt_size (N p hp).1
  show p.1 < (s.heap.push _).objs.size
  rw [Heap.size_push]; exact Nat.lt_succ_of_lt this
end
end
end Mine

namespace Mine
section


section
variable {prog : Program} {w : World} {p : Program} {loose : List Str} {mean : ExcName → Option Value} {mg mb : Str → Option Value}
  {dp un : Nat} {gd : Option (List Code)} {cn : Str} {cs : Scope} {a : Addr} {ccd : Value} {cl : List (Str × Addr)} {outer : List Env} {A₀ : Around} {base h₀ : Heap} {L : Addr}
  {m : Str → Option Value} {news : List (Addr × Obj)} {s : Shared} {Q E : Value → Shared → Prop}
theorem law_spread_spec {k : Kd} {x : Str} {T b : Int} {t0 t1 t2 : Tok} (zB : Below A₀ base outer h₀) (zF : Fr h₀ L s.heap m) (zX : (hd.heap_39 w.params).In h₀) (zN : News h₀ L s.heap news) (zT : Top p loose mean mg mb h₀) (zk : cs.kind = .function) (hd : dp + 1 < recursionLimit) (hu : un + 20 < cLine) (hx : k.str = x) (h1 : 0 < b ∧ b < 2 ^ 8) (h3 : -(2 ^ 20) < T ∧ T < 2 ^ 20)
    (ret : ∀ v u s', v = spr k T b → Sm s s' → Fr h₀ L s'.heap m → News h₀ L s'.heap news → Q (.int v u) s') :
    wpAny (model prog w) (ktrTop dp un gd cn cs L a ccd cl outer) (call (.ref 506) [.str x t0, .int T t1, .int b t2]) Q E s := by
  subst hx
  cases k
  · show wpAny _ _ (call _ [.str (Str.ofString "pad") t0, _, _]) _ _ _
    k_dflt (refine' enterM (mu := []) (binds := [(Str.ofString "kind", .str (Str.ofString "pad") t0), (Str.ofString "top", .int T t1), (Str.ofString "bottom", .int b t2)]) zB zF zX zN (fun _ _ h => nomatch h) zT zk ?k6 ?k7 ?k8 ?k9 ?kB ?c2 ?c3 ?c4 ?c5 ?_; (case k6 => k_is); (case k7 => k_is); (case k8 => k_extra "om"); (case k9 => first | exact BindsTo.of_eq rfl | exact binds_K (Frag.In.keeps zX zF.keep) rfl (by k_is) rfl rfl rfl); (case c5 => decide); (case kB => exact locs rfl); (case c2 => exact rfl); (case c3 => exact rfl); (case c4 => exact rfl); k_whole; intro gg gL gs gS gG gF gN gB gX gT gA gE; (try dsimp only); (try k_fold))
    k_extra "S"
    (all_goals (try dsimp only)); (all_goals (try k_unfold)); (all_goals (try dsimp only))
    all_goals exact retM (by assumption) (by assumption) (fun kF kN => ret _ _ _ (by simp only [spr]; omega) (by k_extra "sm") kF (news_drop kN))
  · show wpAny _ _ (call _ [.str (Str.ofString "repeat") t0, _, _]) _ _ _
    k_dflt (refine' enterM (mu := []) (binds := [(Str.ofString "kind", .str (Str.ofString "repeat") t0), (Str.ofString "top", .int T t1), (Str.ofString "bottom", .int b t2)]) zB zF zX zN (fun _ _ h => nomatch h) zT zk ?k6 ?k7 ?k8 ?k9 ?kB ?c2 ?c3 ?c4 ?c5 ?_; (case k6 => k_is); (case k7 => k_is); (case k8 => k_extra "om"); (case k9 => first | exact BindsTo.of_eq rfl | exact binds_K (Frag.In.keeps zX zF.keep) rfl (by k_is) rfl rfl rfl); (case c5 => decide); (case kB => exact locs rfl); (case c2 => exact rfl); (case c3 => exact rfl); (case c4 => exact rfl); k_whole; intro gg gL gs gS gG gF gN gB gX gT gA gE; (try dsimp only); (try k_fold))
    k_extra "S"
    (all_goals (try dsimp only)); (all_goals (try k_unfold)); (all_goals (try dsimp only))
    all_goals exact retM (by assumption) (by assumption) (fun kF kN => ret _ _ _ (by simp only [spr]) (by k_extra "sm") kF (news_drop kN))
  · show wpAny _ _ (call _ [.str (Str.ofString "reflect") t0, _, _]) _ _ _
    k_dflt (refine' enterM (mu := []) (binds := [(Str.ofString "kind", .str (Str.ofString "reflect") t0), (Str.ofString "top", .int T t1), (Str.ofString "bottom", .int b t2)]) zB zF zX zN (fun _ _ h => nomatch h) zT zk ?k6 ?k7 ?k8 ?k9 ?kB ?c2 ?c3 ?c4 ?c5 ?_; (case k6 => k_is); (case k7 => k_is); (case k8 => k_extra "om"); (case k9 => first | exact BindsTo.of_eq rfl | exact binds_K (Frag.In.keeps zX zF.keep) rfl (by k_is) rfl rfl rfl); (case c5 => decide); (case kB => exact locs rfl); (case c2 => exact rfl); (case c3 => exact rfl); (case c4 => exact rfl); k_whole; intro gg gL gs gS gG gF gN gB gX gT gA gE; (try dsimp only); (try k_fold))
    k_extra "S"
    (all_goals (try dsimp only)); (all_goals (try k_unfold)); (all_goals (try dsimp only))
    all_goals exact retM (by assumption) (by assumption) (fun kF kN => ret _ _ _ (by simp only [spr]; omega) (by k_extra "sm") kF (news_drop kN))
end
end
end Mine

namespace Mine
section
theorem rl_LawB_1 : True := by
  k_with "ST" => (repeat' ((fail_if_success (with_reducible show wpAny _ _ (subscriptTail _ (PySem.Expr.Slice _ _ _ _) _ _) _ _ _)); (fail_if_success (with_reducible show wpAny _ _ (exec (Stmt.While _ _ _ _) _) _ _ _)); (fail_if_success (with_reducible show wpAny _ _ (exec (Stmt.For _ _ _ _ _) _) _ _ _)); (fail_if_success (with_reducible show wpAny _ _ (eval (Expr.ListComp _ _ _ _) _) _ _ _)); (fail_if_success (with_reducible show wpAny _ _ (exec (Stmt.Assign _ (Expr.ListComp _ _ _ _) _) _) _ _ _)); (fail_if_success (with_reducible show wpAny _ _ (call (Value.builtin "list.append") _) _ _ _)); (fail_if_success (with_reducible show RetM _ _ _ _ _ _ _ _ _)); (fail_if_success (with_reducible show wpAny _ _ (pyIter _) _ _ _)); first | (k_unfold; (try dsimp only)) | (k_end; wrow_close) | walk1 | (dsimp only; walk1) | fail "no step"))
  trivial


theorem rl_LawB_3 : True := by
  k_with "k_ne" => (refine' ne_of_data ?knzq ?kazq ?kbzq ?kdzq; (case knzq => k_asm); (case kazq => k_mem); (case kbzq => k_mem); (case kdzq => (intro hq; have hz := hq.trans (by assumption); cases hz)))
  k_with "eval Name" => (k_here; k_inBlock; k_dflt (first | (refine' PyProof.Rows.ldVarK ?nzq ?vzq ?_ ?azq ?bzq ?czq; (case azq => rfl); (case bzq => rfl); (case czq => decide); (case nzq => first | assumption | exact ns_led (by assumption) (by assumption) (by k_mem) (by k_asm) (by k_mem)); (case vzq => first | rfl | assumption); k_whole) | (refine' PyProof.Rows.ldCellK ?czq ?vzq ?_ ?azq ?bzq ?dzq ?ezq; (case azq => rfl); (case bzq => rfl); (case dzq => decide); (case ezq => decide); (case czq => rfl); (case vzq => exact cell_led (by k_asm) (by k_mem) (by assumption)); k_whole)))
  trivial

section
variable {prog : Program} {w : World} {p : Program} {loose : List Str} {mean : ExcName → Option Value} {mg mb : Str → Option Value}
  {dp un : Nat} {gd : Option (List Code)} {cn : Str} {cs : Scope} {a : Addr} {ccd : Value} {cl : List (Str × Addr)} {outer : List Env} {A₀ : Around} {base h₀ : Heap} {L : Addr}
  {m : Str → Option Value} {news : List (Addr × Obj)} {s : Shared} {Q E : Value → Shared → Prop}
theorem three_get {r g b al : Int} {u1 u2 u3 : Tok} {i : Nat} {v : Value} (h1 : 0 ≤ r ∧ r ≤ 255) (h2 : 0 ≤ g ∧ g ≤ 255) (h3 : 0 ≤ b ∧ b ≤ 255) (h : [Value.int r u1, .int g u2, .int b u3][i]? = some v) :
    ∃ n u, v = .int n u ∧ i < 3 ∧ (0 ≤ n ∧ n ≤ 255) ∧ wgt n al = [wgt r al, wgt g al, wgt b al].getD i 0 := by
  match i, h with
  | 0, h => exact ⟨r, u1, (Option.some.inj h).symm, by decide, h1, rfl⟩
  | 1, h => exact ⟨g, u2, (Option.some.inj h).symm, by decide, h2, rfl⟩
  | 2, h => exact ⟨b, u3, (Option.some.inj h).symm, by decide, h3, rfl⟩
  | k + 3, h => exact nomatch h
theorem law_weighted_tup {vp : Value} {r g b al : Int} (zB : Below A₀ base outer h₀) (zF : Fr h₀ L s.heap m) (zX : (hd.heap_39 w.params).In h₀) (zN : News h₀ L s.heap news) (zT : Top p loose mean mg mb h₀) (zk : cs.kind = .function) (hd : dp + 1 < recursionLimit) (hu : un + 20 < cLine) (hp : FourAt s.heap vp r g b al) (h1 : 0 ≤ r ∧ r ≤ 255) (h2 : 0 ≤ g ∧ g ≤ 255) (h3 : 0 ≤ b ∧ b ≤ 255) (h4 : 0 ≤ al ∧ al ≤ 255)
    (ret : ∀ z t1 t2 t3 t4 s', Sm s s' → Fr h₀ L s'.heap m → News h₀ L s'.heap ((z, fourO (wgt r al) (wgt g al) (wgt b al) al t1 t2 t3 t4) :: news) → Q (.ref z) s') :
    wpAny (model prog w) (ktrTop dp un gd cn cs L a ccd cl outer) (call (.ref 511) [vp]) Q E s := by
  obtain ⟨a, u1, u2, u3, u4, rfl, i⟩ := hp
  k_dflt (refine' enterC (mu := []) (binds := [(Str.ofString "parts", .ref a)]) zB zF zX zN (fun _ _ h => nomatch h) zT zk ?k6 ?k7 ?k8 ?k9 ?kB ?kD ?c2 ?c3 ?c4 ?_; (case k6 => k_is); (case k7 => k_is); (case k8 => k_extra "om"); (case k9 => first | exact BindsTo.of_eq rfl | exact binds_K (Frag.In.keeps zX zF.keep) rfl (by k_is) rfl rfl rfl); (case kB => exact rfl); (case kD => decide +kernel); (case c2 => exact rfl); (case c3 => exact rfl); (case c4 => exact rfl); k_whole; intro gg gL gs gcells gS gG gF gN gY gl gB gX gT gA; (try dsimp only); (try k_fold))
  k_cells gY
  have i := tupG i gG
  simp only [List.append_nil] at gN
  k_extra "S"
  (try k_unmd); k_fold
  refine comp_eval (by with_unfolding_all rfl) rfl (by decide) ?_
  k_extra "ST"
  k_dflt (refine' slice_three (by k_asm) (by k_asm) (IsTup.keeps (by assumption) (Fr.keep (by k_asm))) ?_ (by with_unfolding_all rfl) (by intro _; with_unfolding_all rfl))
  intro D9 h9 F9 N9 l9
  (try dsimp only)
  refine comp_tuple (l := D9) (vs := [.int r u1, .int g u2, .int b u3]) (pin := [(D9, { cls := .type "tuple", data := .seq #[.int r u1, .int g u2, .int b u3] }), (gL + 1, _)]) (nw := []) rfl (N9.isTup (.head _)) (.inr ⟨_, .head _⟩) (by decide) rfl
    (fun i ys nw => nw = [] ∧ ys.length = i ∧ i ≤ 3 ∧ ∀ j, j < i → ∃ t, ys[j]? = some (.int ([wgt r al, wgt g al, wgt b al].getD j 0) t)) F9 (by rw [List.append_nil]; exact N9) ⟨rfl, rfl, by k_extra "om", fun j hj => absurd hj (by k_extra "om")⟩ (by rintro i ys nw ⟨_, h, h', _⟩; rw [sizeLine_eq]; (first | exact le_by (by assumption) (by assumption) (by rfl) | exact le_by2 (by assumption) (by assumption) (by rfl) | exact le_by3 (by assumption) (by assumption) (by assumption) (by rfl) | omega)) ?_ ?_
  · intro D C I i v hlt' hID hDC hv ys nw₁ s1 oI oC oD mC hJ hne hoD hoI S1 F N hC
    refine hideG fun Gzq kzq => ?_
    obtain ⟨rfl, hlen, hi3, hys⟩ := hJ
    refine kzq ?_
    clear kzq Gzq
    clear F9 N9
    rw [List.append_nil] at hlt'
    refine assign_comp rfl rfl F N (Nat.ne_of_lt hDC) ?_ hC (fun h2 oC2 S2 F2 N2' hC2 => ?_)
    · intro p hp
      rcases List.mem_cons.mp hp with rfl | hp
      · exact Nat.ne_of_lt (Nat.lt_trans hID hDC)
      · rw [List.append_nil] at hp
        exact Nat.ne_of_lt (Nat.lt_trans (hlt' p hp) (Nat.lt_trans hID hDC))
    refine wpAny_tests_nil ?_
    simp only [if_true]
    clear F N
    have hO : h2.heap.get? C = some oC2 := (N2' _ (.tail _ (.head _))).1
    refine hideG fun Gzq kzq => ?_
    obtain ⟨nv, uv, rfl, hi, hnb, hwg⟩ := three_get (al := al) h1 (by assumption) h3 hv
    refine kzq ?_
    clear kzq Gzq
    clear hv
    k_extra "S"
    rename News gg _ _ _ => N9
    refine comp_end hC2 hO (by k_extra "sm") (by assumption) N9 ⟨rfl, ?_, ?_, ?_⟩
    · rw [List.length_append, hlen]; rfl
    · omega
    · exact snoc_ints (f := fun j => [wgt r al, wgt g al, wgt b al].getD j 0) hlen hys hwg
  · intro D C ys nw₁ s1 oC mC nD hDC hr hJ S1 F N hC
    refine hideG fun Gzq kzq => ?_
    obtain ⟨rfl, hlen, _, hys⟩ := hJ
    refine kzq ?_
    clear kzq Gzq
    clear F9 N9
    refine done_eval hDC hr F N hC (fun h2 S3 F2 N2' => ?_)
    clear F N
    refine hideG fun Gzq kzq => ?_
    obtain ⟨a0, a1, a2, rfl⟩ := three_list hlen
    obtain ⟨t0, e0⟩ := hys 0 (by show (0 : Nat) < 3; decide)
    obtain ⟨t1, e1⟩ := hys 1 (by show (1 : Nat) < 3; decide)
    obtain ⟨t2, e2⟩ := hys 2 (by show (2 : Nat) < 3; decide)
    refine kzq ?_
    clear kzq Gzq
    simp only [List.getElem?_cons_zero, List.getElem?_cons_succ, Option.some.injEq] at e0 e1 e2
    subst e0; subst e1; subst e2
    clear hys hr
    simp only [List.append_nil] at N2'
    k_extra "S"
    (all_goals (try dsimp only)); (all_goals (try k_unfold)); (all_goals (try dsimp only))
    exact retM (by assumption) (by assumption) (fun kF kN => ret _ _ _ _ _ _ (by k_extra "sm") kF (news_pick kN (by k_mem)))
theorem rl_LawB_4 : True := by
  k_with "subscriptTail Name Constant ref int" => (k_here; k_dflt (refine' item_list ?lzq ?azq ?bzq ?czq ?_ ?dzq; (case lzq => first | exact isList_keeps (by assumption) (Fr.keep (by k_asm)) | exact News.isList (by k_asm) (by k_mem)); (case azq => decide); (case bzq => decide); (case czq => rfl); (case dzq => with_unfolding_all rfl); k_whole))
  trivial
theorem law_weighted_list {r g b al : Int} (zB : Below A₀ base outer h₀) (zF : Fr h₀ L s.heap m) (zX : (hd.heap_39 w.params).In h₀) (zN : News h₀ L s.heap news) (zT : Top p loose mean mg mb h₀) (zk : cs.kind = .function) (hd : dp + 1 < recursionLimit) (hu : un + 20 < cLine) {la : Addr} {u1 u2 u3 u4 : Tok} (i : s.heap.IsList la #[.int r u1, .int g u2, .int b u3, .int al u4]) (h1 : 0 ≤ r ∧ r ≤ 255) (h2 : 0 ≤ g ∧ g ≤ 255) (h3 : 0 ≤ b ∧ b ≤ 255) (h4 : 0 ≤ al ∧ al ≤ 255)
    (ret : ∀ z t1 t2 t3 t4 s', Sm s s' → Fr h₀ L s'.heap m → News h₀ L s'.heap ((z, fourO (wgt r al) (wgt g al) (wgt b al) al t1 t2 t3 t4) :: news) → Q (.ref z) s') :
    wpAny (model prog w) (ktrTop dp un gd cn cs L a ccd cl outer) (call (.ref 511) [.ref la]) Q E s := by
  k_dflt (refine' enterC (mu := []) (binds := [(Str.ofString "parts", .ref la)]) zB zF zX zN (fun _ _ h => nomatch h) zT zk ?k6 ?k7 ?k8 ?k9 ?kB ?kD ?c2 ?c3 ?c4 ?_; (case k6 => k_is); (case k7 => k_is); (case k8 => k_extra "om"); (case k9 => first | exact BindsTo.of_eq rfl | exact binds_K (Frag.In.keeps zX zF.keep) rfl (by k_is) rfl rfl rfl); (case kB => exact rfl); (case kD => decide +kernel); (case c2 => exact rfl); (case c3 => exact rfl); (case c4 => exact rfl); k_whole; intro gg gL gs gcells gS gG gF gN gY gl gB gX gT gA; (try dsimp only); (try k_fold))
  k_cells gY
  have i := isList_keeps i fun b o e => gG b o e (fun h => nomatch h)
  simp only [List.append_nil] at gN
  k_extra "S"
  (try k_unmd); k_fold
  refine comp_eval (by with_unfolding_all rfl) rfl (by decide) ?_
  k_extra "S"
  rename_i D9 h9 F9 N9 l9
  refine comp_list (l := D9) (vs := [.int r u1, .int g u2, .int b u3]) (pin := [(D9, listOf #[.int r u1, .int g u2, .int b u3] 0), (gL + 1, _)]) (nw := []) rfl (N9.isList (.head _)) (.inr ⟨_, .head _⟩) (by decide) rfl
    (fun i ys nw => nw = [] ∧ ys.length = i ∧ i ≤ 3 ∧ ∀ j, j < i → ∃ t, ys[j]? = some (.int ([wgt r al, wgt g al, wgt b al].getD j 0) t)) F9 (by rw [List.append_nil]; exact N9) ⟨rfl, rfl, by k_extra "om", fun j hj => absurd hj (by k_extra "om")⟩ (by rintro i ys nw ⟨_, h, h', _⟩; rw [sizeLine_eq]; (first | exact le_by (by assumption) (by assumption) (by rfl) | exact le_by2 (by assumption) (by assumption) (by rfl) | exact le_by3 (by assumption) (by assumption) (by assumption) (by rfl) | omega)) ?_ ?_
  · intro D C I i v hlt' hID hDC hv ys nw₁ s1 oI oC oD mC hJ hne hoD hoI S1 F N hC
    refine hideG fun Gzq kzq => ?_
    obtain ⟨rfl, hlen, hi3, hys⟩ := hJ
    refine kzq ?_
    clear kzq Gzq
    clear F9 N9
    rw [List.append_nil] at hlt'
    refine assign_comp rfl rfl F N (Nat.ne_of_lt hDC) ?_ hC (fun h2 oC2 S2 F2 N2' hC2 => ?_)
    · intro p hp
      rcases List.mem_cons.mp hp with rfl | hp
      · exact Nat.ne_of_lt (Nat.lt_trans hID hDC)
      · rw [List.append_nil] at hp
        exact Nat.ne_of_lt (Nat.lt_trans (hlt' p hp) (Nat.lt_trans hID hDC))
    refine wpAny_tests_nil ?_
    simp only [if_true]
    clear F N
    have hO : h2.heap.get? C = some oC2 := (N2' _ (.tail _ (.head _))).1
    refine hideG fun Gzq kzq => ?_
    obtain ⟨nv, uv, rfl, hi, hnb, hwg⟩ := three_get (al := al) h1 (by assumption) h3 hv
    refine kzq ?_
    clear kzq Gzq
    clear hv
    k_extra "S"
    rename News gg _ _ _ => N9
    refine comp_end hC2 hO (by k_extra "sm") (by assumption) N9 ⟨rfl, ?_, ?_, ?_⟩
    · rw [List.length_append, hlen]; rfl
    · omega
    · exact snoc_ints (f := fun j => [wgt r al, wgt g al, wgt b al].getD j 0) hlen hys hwg
  · intro D C ys nw₁ s1 oC mC nD hDC hr hJ S1 F N hC
    refine hideG fun Gzq kzq => ?_
    obtain ⟨rfl, hlen, _, hys⟩ := hJ
    refine kzq ?_
    clear kzq Gzq
    clear F9 N9
    refine done_eval hDC hr F N hC (fun h2 S3 F2 N2' => ?_)
    clear F N
    refine hideG fun Gzq kzq => ?_
    obtain ⟨a0, a1, a2, rfl⟩ := three_list hlen
    obtain ⟨t0, e0⟩ := hys 0 (by show (0 : Nat) < 3; decide)
    obtain ⟨t1, e1⟩ := hys 1 (by show (1 : Nat) < 3; decide)
    obtain ⟨t2, e2⟩ := hys 2 (by show (2 : Nat) < 3; decide)
    refine kzq ?_
    clear kzq Gzq
    simp only [List.getElem?_cons_zero, List.getElem?_cons_succ, Option.some.injEq] at e0 e1 e2
    subst e0; subst e1; subst e2
    clear hys hr
    simp only [List.append_nil] at N2'
    k_extra "S"
    (all_goals (try dsimp only)); (all_goals (try k_unfold)); (all_goals (try dsimp only))
    exact retM (by assumption) (by assumption) (fun kF kN => ret _ _ _ _ _ _ (by k_extra "sm") kF (news_pick kN (by k_mem)))
end
end
end Mine

namespace Mine
section
theorem rl_LawC_1 : True := by
  k_with "eval Name" => (k_here; (fail_if_success (with_reducible show wpAny _ _ (eval (Expr.Name _ _) (compEnvC _ _ _ _)) _ _ _)); k_dflt (first | (refine' nameX_L ?Fzq ?vzq ?_ ?azq ?bzq; (case bzq => exact rfl); (case Fzq => k_asm); (case azq => exact rfl); (case vzq => first | exact rfl | assumption); k_whole) | (refine' nameX_K ?Fzq ?Xzq ?Tzq ?ezq ?_ ?azq ?bzq; (case bzq => exact rfl); (case Fzq => k_asm); (case Xzq => k_asm); (case Tzq => k_asm); (case azq => exact rfl); (case ezq => k_is); k_whole)))
  k_with "subscriptTail Name Constant ref int" => (k_here; k_dflt (refine' item_tupleT ?tzq ?azq ?bzq ?czq ?dzq ?_; (case tzq => (first | exact IsTup.keeps (by with_reducible assumption) (Fr.keep (by k_asm)) | exact News.isTup (by k_asm) (by k_mem) | exact tupK (Frag.In.keeps (by with_reducible assumption) (Fr.keep (by with_reducible assumption))) (by k_is))); (case azq => decide); (case bzq => decide); (case czq => rfl); (case dzq => rfl); k_whole))
  trivial


theorem rl_LawC_3 : True := by
  k_with "eval Name" => (k_here; k_inBlock; k_dflt (first | (refine' PyProof.Rows.ldVarK ?nzq ?vzq ?_ ?azq ?bzq ?czq; (case azq => rfl); (case bzq => rfl); (case czq => decide); (case nzq => first | assumption | exact ns_led (by assumption) (by assumption) (by k_mem) (by k_asm) (by k_mem)); (case vzq => first | rfl | assumption); k_whole) | (refine' PyProof.Rows.ldCellK ?czq ?vzq ?_ ?azq ?bzq ?dzq ?ezq; (case azq => rfl); (case bzq => rfl); (case dzq => decide); (case ezq => decide); (case czq => rfl); (case vzq => exact cell_led (by k_asm) (by k_mem) (by assumption)); k_whole)))
  trivial

theorem isEmpty_nil' : ([] : List Value).isEmpty = true := rfl
theorem isEmpty_cons' {v : Value} {r : List Value} : (v :: r).isEmpty = false := rfl
theorem isEmpty_snoc {v : Value} {r : List Value} : (r ++ [v]).isEmpty = false := by cases r <;> rfl
theorem eq_nil_b {prog : Program} {w : World} {A : Around} {E : Value → Shared → Prop} {s : Shared} {Q : Value → Shared → Prop} {l b : Addr} {vs : List Value} {r : Bool} (hl : s.heap.IsList l vs.toArray) (hb : s.heap.IsList b #[]) (he : vs.isEmpty = r) (hu : A.units + 64 < cLine) (h : Q (.bool r) s) :
    wpAny (model prog w) A (compareOp .Eq (.ref l) (.ref b)) Q E s := by subst he; exact eq_nil hl hb hu h
theorem pick_last {v : Value} {r : List Value} : kms_pick (r ++ [v]).toArray.toList (some (-1)) none = [v] := by
  unfold kms_pick
  simp only [kms_lo, kms_hi]
  simp
theorem pick_first {v : Value} {r : List Value} : kms_pick (v :: r).toArray.toList none (some 1) = [v] := by
  unfold kms_pick
  simp only [kms_lo, kms_hi]
  simp
theorem pick_nil1 : kms_pick (#[] : Array Value).toList (some (-1)) none = [] := rfl
theorem pick_nil2 : kms_pick (#[] : Array Value).toList none (some 1) = [] := rfl
theorem rl_LawC_4 : True := by
  k_with "subscriptTail Name Constant ref int" => (k_here; (with_reducible show wpAny _ _ (subscriptTail _ _ (Value.ref _) (Value.int 0 _)) _ _ _); k_dflt (refine' item_list ?lzq ?azq ?bzq ?czq ?_ ?dzq; (case lzq => exact News.isList (by k_asm) (by k_mem)); (case azq => decide); (case bzq => decide); (case czq => rfl); (case dzq => with_unfolding_all rfl); k_whole))
  k_with "subscriptTail BinOp" => (k_here; (with_reducible show wpAny _ _ (subscriptTail _ _ (Value.ref _) (Value.int 0 _)) _ _ _); k_dflt (refine' item_list ?lzq ?azq ?bzq ?czq ?_ ?dzq; (case lzq => exact News.isList (by k_asm) (by k_mem)); (case azq => decide); (case bzq => decide); (case czq => rfl); (case dzq => with_unfolding_all rfl); k_whole))
  k_with "subscriptTail Subscript" => (k_here; k_dflt (refine kba_turn (value' := PySem.Expr.Name (PySem.Str.ofString "_") ⟨0, 0, 0, 0⟩) (fun _ => rfl) ?_))
  k_with "compareOp Eq ref ref" => (k_here; k_dflt (refine' eq_nil_b (News.isList (by k_asm) (by k_mem)) (News.isList (by k_asm) (by k_mem)) ?ezq (by (first | exact units_lim (by with_reducible assumption) (by rfl) | ktr_units)) ?_; (case ezq => first | exact isEmpty_nil' | exact isEmpty_cons' | exact isEmpty_snoc)))
  k_with "subscriptTail Name Slice ref ref" => (k_here; (with_reducible show wpAny _ _ (subscriptTail _ (PySem.Expr.Slice _ _ none _) (Value.ref _) (Value.ref _)) _ _ _); k_dflt (refine' kms_slice_lit ?Fzq ?Nzq ?lzq ?pzq ?qzq ?ezq ?_ ?szq ?tzq ?zzq; (case Fzq => k_asm); (case Nzq => k_asm); (case lzq => exact News.isList (by k_asm) (by k_mem)); (case pzq => kmk_part); (case qzq => kmk_part); (case ezq => first | exact pick_last | exact pick_first | exact pick_nil1 | exact pick_nil2); (case szq => with_unfolding_all rfl); (case tzq => kmk_pure); (case zzq => first | assumption | kmk_size)); intro D' h' F' N' l1; (try k_lt l1); (revert D' h' F' N' l1; intros); (try k_sweep))
  k_with "subscriptTail Name UnaryOp ref int" => (k_here; (with_reducible show wpAny _ _ (subscriptTail _ _ (Value.ref _) (Value.int (-1) _)) _ _ _); k_dflt (refine' item_last (News.isList (by k_asm) (by k_mem)) List.getLast?_concat ?_))
  trivial
/-- a stop as the law keeps it: (eighths, parts) -/
inductive OrdAt (h : Heap) (v : Value) (x : Row) : Prop
  | mk (a : _) (t1 : _) (vf : _) (q1 : v = .ref a) (q2 : IsTup h a #[.int x.o t1, vf]) (q3 : FourAt h vf x.r x.g x.b x.al) : OrdAt h v x
theorem OrdAt.keeps {h h' : Heap} {v : Value} {x : Row} (q : OrdAt h v x) (hk : ∀ b o, h.get? b = some o → h'.get? b = some o) : OrdAt h' v x := let ⟨a, t1, vf, e, i, f⟩ := q; ⟨a, t1, vf, e, i.keeps hk, f.keeps hk⟩
inductive OrdsAt (h : Heap) (v : Value) (rows : List Row) : Prop
  | mk (l : _) (vs : _) (q1 : v = .ref l) (q2 : h.IsList l vs.toArray) (q3 : Paired (OrdAt h) vs rows) : OrdsAt h v rows
theorem OrdsAt.keeps {h h' : Heap} {v : Value} {rows : List Row} (q : OrdsAt h v rows) (hk : ∀ b o, h.get? b = some o → h'.get? b = some o) : OrdsAt h' v rows := let ⟨l, vs, e, i, p⟩ := q; ⟨l, vs, e, isList_keeps i hk, paired_mono (fun _ _ x => x.keeps hk) p⟩
theorem filter_take_yes {α : Type} {p : α → Bool} {l : List α} {i : Nat} {x : α} (hx : l[i]? = some x) (hp : p x = true) : (l.take (i + 1)).filter p = (l.take i).filter p ++ [x] := by
  rw [List.take_add_one, hx, List.filter_append]; simp [hp]
theorem filter_take_no {α : Type} {p : α → Bool} {l : List α} {i : Nat} {x : α} (hx : l[i]? = some x) (hp : p x = false) : (l.take (i + 1)).filter p = (l.take i).filter p := by
  rw [List.take_add_one, hx, List.filter_append]; simp [hp]
theorem paired_snoc_inv {α β : Type} {F : α → β → Prop} : ∀ {l : List α} {a : α} {m : List β}, Paired F (l ++ [a]) m → ∃ m' b, m = m' ++ [b] ∧ Paired F l m' ∧ F a b
  | [], a, _, .cons x .nil => ⟨[], _, rfl, .nil, x⟩
  | c :: l, a, _, .cons x r => let ⟨m', b, e, p, q⟩ := paired_snoc_inv r; ⟨_ :: m', b, by rw [e]; rfl, .cons x p, q⟩
def pAt (T b : Int) (x : Row) : Bool := decide (x.o * b ≤ 8 * T)
def pBe (T b : Int) (x : Row) : Bool := decide (¬ x.o * b ≤ 8 * T)
theorem cnt_split {T b : Int} (hb : 0 < b) : ∀ {rows : List Row}, rows.Pairwise (fun x y => x.o ≤ y.o) → rows.filter (pAt T b) = rows.take (cnt T b rows) ∧ rows.filter (pBe T b) = rows.drop (cnt T b rows)
  | [], _ => ⟨rfl, rfl⟩
  | x :: r, h => by
    have ⟨h1, h2⟩ := List.pairwise_cons.mp h
    by_cases hx : x.o * b ≤ 8 * T
    · obtain ⟨i1, i2⟩ := cnt_split (T := T) hb h2
      have e : cnt T b (x :: r) = cnt T b r + 1 := by simp only [cnt]; rw [if_pos hx]
      rw [e, List.filter_cons_of_pos (by simp [pAt, hx]), List.filter_cons_of_neg (by simp [pBe, hx]), List.take_succ_cons, List.drop_succ_cons, i1, i2]
      exact ⟨rfl, rfl⟩
    · have e : cnt T b (x :: r) = 0 := by simp only [cnt]; rw [if_neg hx]
      have hall : ∀ y ∈ r, ¬ y.o * b ≤ 8 * T := fun y hy hle => by
        have := Int.mul_le_mul_of_nonneg_right (h1 y hy) (Int.le_of_lt hb)
        omega
      rw [e, List.filter_cons_of_neg (by simp [pAt, hx]), List.filter_cons_of_pos (by simp [pBe, hx]), List.take_zero, List.drop_zero, List.filter_eq_nil_iff.mpr (fun y hy => by simpa [pAt] using hall y hy),
        List.filter_eq_self.mpr (fun y hy => by simpa [pBe] using hall y hy)]
      exact ⟨rfl, rfl⟩
theorem colP_first {T b : Int} (hb : 0 < b) {rows r : List Row} {y : Row} (h : rows.Pairwise (fun x y => x.o ≤ y.o)) (hA : rows.filter (pAt T b) = []) (hB : rows.filter (pBe T b) = y :: r) : colP rows T b = premC y ∧ y ∈ rows := by
  obtain ⟨i1, i2⟩ := cnt_split (T := T) hb h
  rw [i1] at hA
  rw [i2] at hB
  have e : rows = y :: r := by rw [← List.take_append_drop (cnt T b rows) rows, hA, hB]; rfl
  have hc : cnt T b rows = 0 := by
    rw [e] at hA ⊢
    cases hk : cnt T b (y :: r) with
    | zero => rfl
    | succ k => rw [hk] at hA; simp at hA
  refine ⟨?_, by rw [e]; exact .head _⟩
  unfold colP
  rw [if_pos (.inl hc), hc, e]
  rfl
theorem colP_last {T b : Int} (hb : 0 < b) {rows m : List Row} {x : Row} (h : rows.Pairwise (fun x y => x.o ≤ y.o)) (hA : rows.filter (pAt T b) = m ++ [x]) (hB : rows.filter (pBe T b) = []) : colP rows T b = premC x ∧ x ∈ rows := by
  obtain ⟨i1, i2⟩ := cnt_split (T := T) hb h
  rw [i1] at hA
  rw [i2] at hB
  have e : rows = m ++ [x] := by rw [← List.take_append_drop (cnt T b rows) rows, hA, hB, List.append_nil]
  have hc : cnt T b rows = rows.length := by
    have h1 := cnt_le T b rows
    have h2 := List.drop_eq_nil_iff.mp hB
    omega
  refine ⟨?_, by rw [e]; simp⟩
  unfold colP
  rw [if_pos (.inr hc), hc, e]
  simp [List.getD]
theorem colP_mid {T b : Int} (hb : 0 < b) {rows m r : List Row} {x y : Row} (h : rows.Pairwise (fun x y => x.o ≤ y.o)) (hA : rows.filter (pAt T b) = m ++ [x]) (hB : rows.filter (pBe T b) = y :: r) : colP rows T b = mixC x y T b ∧ x ∈ rows ∧ y ∈ rows ∧ x.o * b ≤ 8 * T ∧ ¬ y.o * b ≤ 8 * T := by
  obtain ⟨i1, i2⟩ := cnt_split (T := T) hb h
  have mx : x ∈ rows.filter (pAt T b) := by rw [hA]; simp
  have my : y ∈ rows.filter (pBe T b) := by rw [hB]; simp
  obtain ⟨mx1, mx2⟩ := List.mem_filter.mp mx
  obtain ⟨my1, my2⟩ := List.mem_filter.mp my
  rw [i1] at hA
  rw [i2] at hB
  have e : rows = m ++ [x] ++ y :: r := by rw [← hA, ← hB, List.take_append_drop]
  have hc : cnt T b rows = m.length + 1 := by
    have h1 := cnt_le T b rows
    have := congrArg List.length hA
    rw [List.length_take, List.length_append, List.length_singleton] at this
    omega
  have hl : rows.length = m.length + 1 + (r.length + 1) := by rw [e]; simp; omega
  refine ⟨?_, mx1, my1, of_decide_eq_true mx2, of_decide_eq_true my2⟩
  unfold colP
  rw [if_neg (by k_extra "om"), hc, e]
  simp [List.getD]
section
variable {prog : Program} {w : World} {p : Program} {loose : List Str} {mean : ExcName → Option Value} {mg mb : Str → Option Value}
  {dp un : Nat} {gd : Option (List Code)} {cn : Str} {cs : Scope} {a : Addr} {ccd : Value} {cl : List (Str × Addr)} {outer : List Env} {A₀ : Around} {base h₀ : Heap} {L : Addr}
  {m : Str → Option Value} {news : List (Addr × Obj)} {s : Shared} {Q E : Value → Shared → Prop}
theorem rl_LawC_5 : True := by
  k_with "call ref" => (k_here; (with_reducible show wpAny _ _ (call (Value.ref 511) _) _ _ _); k_dflt (refine' law_weighted_list ?cBzq ?cFzq ?cXzq ?cNzq ?cTzq ?ckzq ?cdzq ?cuzq ?p0zq ?p1zq ?p2zq ?p3zq ?p4zq ?_; (case cBzq => k_asm); (case cFzq => k_asm); (case cXzq => k_asm); (case cNzq => k_asm); (case cTzq => k_asm); (case ckzq => first | rfl | assumption); (case cdzq => k_extra "om"); (case cuzq => k_extra "om"); (case p0zq => (exact News.isList (by k_asm) (by k_mem))); (case p1zq => assumption); (case p2zq => assumption); (case p3zq => assumption); (case p4zq => assumption); k_whole; intro _ _ _ _ _ _ _ _ _; (try k_sweep)))
  k_with "call ref" => (k_here; (with_reducible show wpAny _ _ (call (Value.ref 511) _) _ _ _); k_dflt (refine' law_weighted_tup ?cBzq ?cFzq ?cXzq ?cNzq ?cTzq ?ckzq ?cdzq ?cuzq ?p0zq ?p1zq ?p2zq ?p3zq ?p4zq ?_; (case cBzq => k_asm); (case cFzq => k_asm); (case cXzq => k_asm); (case cNzq => k_asm); (case cTzq => k_asm); (case ckzq => first | rfl | assumption); (case cdzq => k_extra "om"); (case cuzq => k_extra "om"); (case p0zq => (exact FourAt.keeps (by assumption) (Fr.keep (by k_asm)))); (case p1zq => k_extra "om"); (case p2zq => k_extra "om"); (case p3zq => k_extra "om"); (case p4zq => k_extra "om"); k_whole; intro _ _ _ _ _ _ _ _ _; (try k_sweep)))
  trivial
theorem law_colour_spec {vl : Value} {rows : List Row} {T b : Int} {t1 t2 : Tok} (zB : Below A₀ base outer h₀) (zF : Fr h₀ L s.heap m) (zX : (hd.heap_39 w.params).In h₀) (zN : News h₀ L s.heap news) (zT : Top p loose mean mg mb h₀) (zk : cs.kind = .function) (hd : dp + 4 < recursionLimit) (hu : un + 80 < cLine) (hl : OrdsAt s.heap vl rows) (hr : ∀ x ∈ rows, x.ok ∧ 0 ≤ x.o ∧ x.o ≤ 8) (hn : rows ≠ []) (hn4 : rows.length ≤ 4) (hso : rows.Pairwise (fun x y => x.o ≤ y.o))
    (hbb : 0 < b ∧ b < 2 ^ 6) (hT : -(2 ^ 10) < T ∧ T < 2 ^ 10)
    (ret : ∀ z t1 t2 t3 t4 s', Sm s s' → Fr h₀ L s'.heap m → News h₀ L s'.heap ((z, colO (colP rows T b) t1 t2 t3 t4) :: news) → Q (.ref z) s') :
    wpAny (model prog w) (ktrTop dp un gd cn cs L a ccd cl outer) (call (.ref 516) [vl, .int T t1, .int b t2]) Q E s := by
  obtain ⟨l, vs, rfl, il, hp⟩ := hl
  k_dflt (refine' enterC (mu := []) (binds := [(Str.ofString "stops", .ref l), (Str.ofString "top", .int T t1), (Str.ofString "bottom", .int b t2)]) zB zF zX zN (fun _ _ h => nomatch h) zT zk ?k6 ?k7 ?k8 ?k9 ?kB ?kD ?c2 ?c3 ?c4 ?_; (case k6 => k_is); (case k7 => k_is); (case k8 => k_extra "om"); (case k9 => first | exact BindsTo.of_eq rfl | exact binds_K (Frag.In.keeps zX zF.keep) rfl (by k_is) rfl rfl rfl); (case kB => exact rfl); (case kD => decide +kernel); (case c2 => exact rfl); (case c3 => exact rfl); (case c4 => exact rfl); k_whole; intro gg gL gs gcells gS gG gF gN gY gl gB gX gT gA; (try dsimp only); (try k_fold))
  k_cells gY
  have il := isList_keeps il fun b o e => gG b o e (fun h => nomatch h)
  have hp := paired_mono (fun _ _ q => OrdAt.keeps q fun b o e => gG b o e (fun h => nomatch h)) hp
  simp only [List.append_nil] at gN
  k_extra "S"
  (try k_unmd); k_fold
  refine comp_assign (by with_unfolding_all rfl) rfl rfl (by decide) ?_
  k_extra "S"
  have gN : ∃ o1 o2 o3 o4 o5 o6, News gg gL gs.heap [(gL + 1 + 1 + 1 + 1 + 1 + 1, o1), (gL + 1 + 1 + 1 + 1 + 1, o2), (gL + 1 + 1 + 1 + 1, o3), (gL + 1 + 1 + 1, o4), (gL + 1 + 1, o5), (gL + 1, o6)] ∧
      o6.data = .cell (some (.int T t1)) ∧ o5.data = .cell (some (.int b t2)) ∧ o4.data = .cell none ∧ o3.data = .cell none ∧ o2.data = .cell none ∧ o1.data = .cell none := ⟨_, _, _, _, _, _, gN, by assumption, by assumption, by assumption, by assumption, by assumption, by assumption⟩
  refine hideG fun Gzq kzq => ?_
  obtain ⟨o1, o2, o3, o4, o5, o6, gN, z6, z5, z4, z3, z2, z1⟩ := gN
  refine kzq ?_
  clear kzq Gzq
  refine comp_list (l := l) (vs := vs) (pin := [(gL + 1 + 1 + 1 + 1 + 1 + 1, o1), (gL + 1 + 1 + 1 + 1 + 1, o2), (gL + 1 + 1 + 1 + 1, o3), (gL + 1 + 1 + 1, o4), (gL + 1 + 1, o5), (gL + 1, o6)]) (nw := []) rfl (isList_keeps il (Fr.keep gF)) (.inl ⟨_, il.choose_spec.1⟩) (by decide) rfl
    (fun i ys nw => nw = [] ∧ ys.length ≤ i ∧ i ≤ vs.length ∧ Paired (OrdAt gg) ys ((rows.take i).filter fun x => decide (x.o * b ≤ 8 * T))) gF (by rw [List.append_nil]; exact gN) ⟨rfl, Nat.le_refl _, Nat.zero_le _, by simpa using Paired.nil⟩ (by rintro i ys nw ⟨_, h, h', _⟩; have := hp.length; rw [sizeLine_eq]; (first | exact le_by (by assumption) (by assumption) (by rfl) | exact le_by2 (by assumption) (by assumption) (by rfl) | exact le_by3 (by assumption) (by assumption) (by assumption) (by rfl) | omega)) ?_ ?_
  · intro D C I i v hlt' hID hDC hv ys nw₁ s1 oI oC oD mC hJ hne hoD hoI S1 F N hC
    refine hideG fun Gzq kzq => ?_
    obtain ⟨rfl, hlen, hi3, hys⟩ := hJ
    refine kzq ?_
    clear kzq Gzq
    rw [List.append_nil] at hlt'
    refine hideG fun Gzq kzq => ?_
    obtain ⟨x, hx, q⟩ := paired_get hp i v hv
    refine kzq ?_
    clear kzq Gzq
    have hq := q
    refine hideG fun Gzq kzq => ?_
    obtain ⟨a9, t9, vf, rfl, ia, _⟩ := q
    obtain ⟨hxok, hx0, hx8⟩ := hr x (List.mem_of_getElem? hx)
    refine kzq ?_
    clear kzq Gzq
    have hil : i < vs.length := (List.getElem?_eq_some_iff.mp hv).1
    refine assign_comp rfl rfl F N (Nat.ne_of_lt hDC) ?_ hC (fun h2 oC2 S2 F2 N2' hC2 => ?_)
    · intro p hp
      rcases List.mem_cons.mp hp with rfl | hp
      · exact Nat.ne_of_lt (Nat.lt_trans hID hDC)
      · rw [List.append_nil] at hp
        exact Nat.ne_of_lt (Nat.lt_trans (hlt' p hp) (Nat.lt_trans hID hDC))
    refine wpAny_tests_one ?_
    clear F N gN gF
    have hO : h2.heap.get? C = some oC2 := (N2' _ (.tail _ (.head _))).1
    k_extra "S"
    all_goals (
      rename News gg _ _ _ => N9
      refine comp_end hC2 hO (by k_extra "sm") (by assumption) N9 ⟨rfl, ?_, hil, ?_⟩
      · first | omega | (rw [List.length_append, List.length_singleton]; omega)
      · first
          | (rw [filter_take_yes hx (decide_eq_true (by k_extra "om"))]; exact Paired.snoc hys hq)
          | (rw [filter_take_no hx (decide_eq_false (by k_extra "om"))]; exact hys))
  · intro lA C yA nw₁ s1 oC mC nA hDC hr9 hJ S1 F N hC
    refine hideG fun Gzq kzq => ?_
    obtain ⟨rfl, hlA, _, hysA⟩ := hJ
    refine kzq ?_
    clear kzq Gzq
    rw [hp.length, List.take_length] at hysA
    refine done_assign (L := gL) ?y1 ?y2 ?y3 hDC hr9 F N hC ?y4
    case y1 => rfl
    case y2 => rfl
    case y3 => rfl
    intro h2 S3 FA NA
    clear F N hr9 hDC gF gN hC
    simp only [List.append_nil] at NA
    k_extra "S"
    (try k_unmd); k_fold
    refine comp_assign (by with_unfolding_all rfl) rfl rfl (by decide) ?_
    k_extra "S"
    refine comp_list (l := l) (vs := vs) (pin := [(lA, listOf yA.toArray nA), (gL + 1 + 1 + 1 + 1 + 1 + 1, o1), (gL + 1 + 1 + 1 + 1 + 1, o2), (gL + 1 + 1 + 1 + 1, o3), (gL + 1 + 1 + 1, o4), (gL + 1 + 1, o5), (gL + 1, o6)]) (nw := []) rfl (isList_keeps il (Fr.keep FA)) (.inl ⟨_, il.choose_spec.1⟩) (by decide) rfl
      (fun i ys nw => nw = [] ∧ ys.length ≤ i ∧ i ≤ vs.length ∧ Paired (OrdAt gg) ys ((rows.take i).filter fun x => decide (¬ x.o * b ≤ 8 * T))) FA (by rw [List.append_nil]; exact NA) ⟨rfl, Nat.le_refl _, Nat.zero_le _, by simpa using Paired.nil⟩ (by rintro i ys nw ⟨_, h, h', _⟩; have := hp.length; rw [sizeLine_eq]; (first | exact le_by (by assumption) (by assumption) (by rfl) | exact le_by2 (by assumption) (by assumption) (by rfl) | exact le_by3 (by assumption) (by assumption) (by assumption) (by rfl) | omega)) ?_ ?_
    · intro D C I i v hlt' hID hDC hv ys nw₁ s1 oI oC oD mC hJ hne hoD hoI S1 F N hC
      refine hideG fun Gzq kzq => ?_
      obtain ⟨rfl, hlen, hi3, hys⟩ := hJ
      refine kzq ?_
      clear kzq Gzq
      rw [List.append_nil] at hlt'
      refine hideG fun Gzq kzq => ?_
      obtain ⟨x, hx, q⟩ := paired_get hp i v hv
      refine kzq ?_
      clear kzq Gzq
      have hq := q
      refine hideG fun Gzq kzq => ?_
      obtain ⟨a9, t9, vf, rfl, ia, _⟩ := q
      obtain ⟨hxok, hx0, hx8⟩ := hr x (List.mem_of_getElem? hx)
      refine kzq ?_
      clear kzq Gzq
      have hil : i < vs.length := (List.getElem?_eq_some_iff.mp hv).1
      refine assign_comp rfl rfl F N (Nat.ne_of_lt hDC) ?_ hC (fun h2 oC2 S2 F2 N2' hC2 => ?_)
      · intro p hp
        rcases List.mem_cons.mp hp with rfl | hp
        · exact Nat.ne_of_lt (Nat.lt_trans hID hDC)
        · rw [List.append_nil] at hp
          exact Nat.ne_of_lt (Nat.lt_trans (hlt' p hp) (Nat.lt_trans hID hDC))
      refine wpAny_tests_one ?_
      clear F N NA FA
      have hO : h2.heap.get? C = some oC2 := (N2' _ (.tail _ (.head _))).1
      k_extra "S"
      all_goals (
        rename News gg _ _ _ => N9
        refine comp_end hC2 hO (by k_extra "sm") (by assumption) N9 ⟨rfl, ?_, hil, ?_⟩
        · first | omega | (rw [List.length_append, List.length_singleton]; omega)
        · first
            | (rw [filter_take_yes hx (decide_eq_true (by k_extra "om"))]; exact Paired.snoc hys hq)
            | (rw [filter_take_no hx (decide_eq_false (by k_extra "om"))]; exact hys))
    · intro lB C yB nw₁ s1 oC mC nB hDC hr9 hJ S1 F N hC
      refine hideG fun Gzq kzq => ?_
      obtain ⟨rfl, hlB, _, hysB⟩ := hJ
      refine kzq ?_
      clear kzq Gzq
      rw [hp.length, List.take_length] at hysB
      refine done_assign (L := gL) ?x1 ?x2 ?x3 hDC hr9 F N hC ?x4
      case x1 => rfl
      case x2 => rfl
      case x3 => rfl
      intro h2 S3 FB NB
      clear F N hr9 hDC FA NA hC
      simp only [List.append_nil] at NB
      have hvl := hp.length
      have szle : ∀ (y : List Value), y.length ≤ vs.length → y.toArray.size ≤ sizeLine := fun y h => by rw [sizeLine_eq, List.size_toArray]; omega
      have hsA := szle _ hlA
      have hsB := szle _ hlB
      clear szle
      generalize hfA : rows.filter (fun x => decide (x.o * b ≤ 8 * T)) = fA at hysA
      generalize hfB : rows.filter (fun x => decide (¬ x.o * b ≤ 8 * T)) = fB at hysB
      have hfA : rows.filter (pAt T b) = fA := hfA
      have hfB : rows.filter (pBe T b) = fB := hfB
      rcases List.eq_nil_or_concat yA with rfl | ⟨preA, zA, rfl⟩
      · cases hysA
        cases hysB with
        | nil =>
          refine hideG fun Gzq kzq => ?_
          obtain ⟨i1, i2⟩ := cnt_split (T := T) hbb.1 hso
          refine kzq ?_
          clear kzq Gzq
          rw [hfA] at i1
          rw [hfB] at i2
          exact absurd (by rw [← List.take_append_drop (cnt T b rows) rows, ← i1, ← i2]; rfl) hn
        | @cons zB y restB r hB _ =>
          refine hideG fun Gzq kzq => ?_
          obtain ⟨hcol, hmem⟩ := colP_first hbb.1 hso hfA hfB
          refine kzq ?_
          clear kzq Gzq
          rw [hcol] at ret
          refine hideG fun Gzq kzq => ?_
          obtain ⟨⟨⟨y1, y2⟩, ⟨y3, y4⟩, ⟨y5, y6⟩, ⟨y7, y8⟩⟩, _⟩ := hr y hmem
          obtain ⟨aB, tB, vB, rfl, iB, fourB⟩ := hB
          refine kzq ?_
          clear kzq Gzq
          k_extra "S"
          (all_goals (try dsimp only)); (all_goals (try k_unfold)); (all_goals (try dsimp only))
          exact retM (by assumption) (by assumption) (fun kF kN => ret _ _ _ _ _ _ (by k_extra "sm") kF (news_pick kN (by k_mem)))
      · simp only [List.concat_eq_append] at *
        refine hideG fun Gzq kzq => ?_
        obtain ⟨mA, x, rfl, _, hA⟩ := paired_snoc_inv hysA
        refine kzq ?_
        clear kzq Gzq
        cases hysB with
        | nil =>
          refine hideG fun Gzq kzq => ?_
          obtain ⟨hcol, hmem⟩ := colP_last hbb.1 hso hfA hfB
          refine kzq ?_
          clear kzq Gzq
          rw [hcol] at ret
          refine hideG fun Gzq kzq => ?_
          obtain ⟨⟨⟨y1, y2⟩, ⟨y3, y4⟩, ⟨y5, y6⟩, ⟨y7, y8⟩⟩, _⟩ := hr x hmem
          obtain ⟨aB, tB, vB, rfl, iB, fourB⟩ := hA
          refine kzq ?_
          clear kzq Gzq
          k_extra "S"
          (all_goals (try dsimp only)); (all_goals (try k_unfold)); (all_goals (try dsimp only))
          exact retM (by assumption) (by assumption) (fun kF kN => ret _ _ _ _ _ _ (by k_extra "sm") kF (news_pick kN (by k_mem)))
        | @cons zB y restB r hB _ =>
          refine hideG fun Gzq kzq => ?_
          obtain ⟨hcol, hmx, hmy, hxT, hyT⟩ := colP_mid hbb.1 hso hfA hfB
          refine kzq ?_
          clear kzq Gzq
          rw [hcol] at ret
          refine hideG fun Gzq kzq => ?_
          obtain ⟨⟨⟨x1, x2⟩, ⟨x3, x4⟩, ⟨x5, x6⟩, ⟨x7, x8⟩⟩, x9, x10⟩ := hr x hmx
          obtain ⟨⟨⟨y1, y2⟩, ⟨y3, y4⟩, ⟨y5, y6⟩, ⟨y7, y8⟩⟩, y9, y10⟩ := hr y hmy
          obtain ⟨aA, tA, vA, rfl, iA, ⟨bA, r1, r2, r3, r4, rfl, jA⟩⟩ := hA
          obtain ⟨aB, tB, vB, rfl, iB, ⟨bB, s1, s2, s3, s4, rfl, jB⟩⟩ := hB
          refine kzq ?_
          clear kzq Gzq
          k_extra "S"
          rename News gg _ _ _ => N1
          have q3 : (y.o - x.o) * b = y.o * b - x.o * b := Int.sub_mul _ _ _
          have q4 : 0 < (y.o - x.o) * b := by k_extra "om"
          have q5 := mul_bd (x := y.o - x.o) (y := b) (a := 9) (b := 2 ^ 6) (by k_extra "om") (by k_extra "om")
          have q0 : 0 ≤ x.o * b := Int.mul_nonneg x9 (by k_extra "om")
          have hW : 0 ≤ 8 * T - x.o * b ∧ 8 * T - x.o * b ≤ (y.o - x.o) * b := by k_extra "om"
          refine hideG fun Gzq kzq => ?_
          obtain ⟨c1, c2, c3, c4, c5, c6, w1, w2, N2, hc1, hc2, hc3, hc4⟩ : ∃ c1 c2 c3 c4 c5 c6 w1 w2, News gg gL _ [(gL + 1 + 1 + 1 + 1 + 1 + 1, c1), (gL + 1 + 1 + 1 + 1 + 1, c2), (gL + 1 + 1 + 1 + 1, c3), (gL + 1 + 1 + 1, c4), (gL + 1 + 1, c5), (gL + 1, c6)] ∧
              c1.data = .cell (some (.int ((y.o - x.o) * b) w1)) ∧ c2.data = .cell (some (.int (8 * T - x.o * b) w2)) ∧ c3.data = .cell (some (.ref bB)) ∧ c4.data = .cell (some (.ref bA)) :=
            ⟨_, _, _, _, _, _, _, _, fun q hq => N1 q (by simp only [List.mem_cons, List.not_mem_nil, or_false] at hq; rcases hq with rfl | rfl | rfl | rfl | rfl | rfl <;> k_mem), by assumption, by assumption, by assumption, by assumption⟩
          refine kzq ?_
          clear kzq Gzq
          clear N1
          generalize (y.o - x.o) * b = D0 at *
          generalize hW0 : 8 * T - x.o * b = W0 at *
          have q6 : (y.o - x.o) * b = D0 := by rw [Int.sub_mul, ← q3]
          (try k_unmd); k_fold
          refine comp_assign (by with_unfolding_all rfl) rfl rfl (by decide) ?_
          k_extra "S"
          rename IsRange _ _ _ _ _ _ _ _ => hR
          rename Fr _ _ _ _ => F3
          rename News _ _ _ _ => N3
          refine comp_range (n := 4) (pin := [(gL + 1 + 1 + 1 + 1 + 1 + 1, c1), (gL + 1 + 1 + 1 + 1 + 1, c2), (gL + 1 + 1 + 1 + 1, c3), (gL + 1 + 1 + 1, c4), (gL + 1 + 1, c5), (gL + 1, c6)]) (nw := []) rfl hR (by decide) (by decide) (by decide) rfl
            (fun i ys nw => nw = [] ∧ ys.length = i ∧ i ≤ 4 ∧ ∀ j, j < i → ∃ t, ys[j]? = some (.int (2 * (x.part j * D0 + (y.part j - x.part j) * W0)) t)) F3 (by rw [List.append_nil]; exact N3) ⟨rfl, rfl, by k_extra "om", fun j hj => absurd hj (by k_extra "om")⟩ (by rintro i ys nw ⟨_, h, h', _⟩; rw [sizeLine_eq]; (first | exact le_by (by assumption) (by assumption) (by rfl) | exact le_by2 (by assumption) (by assumption) (by rfl) | exact le_by3 (by assumption) (by assumption) (by assumption) (by rfl) | omega)) ?_ ?_
          · intro D C I i tv hlt' hID hDC hi ys nw₁ s1 oI oC oD mC hJ hne hoD hoI S1 F N hC
            refine hideG fun Gzq kzq => ?_
            obtain ⟨rfl, hlen, hi4, hys⟩ := hJ
            refine kzq ?_
            clear kzq Gzq
            clear F3 N3 hR
            rw [List.append_nil] at hlt'
            refine assign_comp rfl rfl F N (Nat.ne_of_lt hDC) ?_ hC (fun h2 oC2 S2 F2 N2' hC2 => ?_)
            · intro p hp
              rcases List.mem_cons.mp hp with rfl | hp
              · exact Nat.ne_of_lt (Nat.lt_trans hID hDC)
              · rw [List.append_nil] at hp
                exact Nat.ne_of_lt (Nat.lt_trans (hlt' p hp) (Nat.lt_trans hID hDC))
            refine wpAny_tests_nil ?_
            simp only [if_true]
            clear F N
            have hO : h2.heap.get? C = some oC2 := (N2' _ (.tail _ (.head _))).1
            have px := part_bd (x := x) ⟨⟨x1, x2⟩, ⟨x3, x4⟩, ⟨x5, x6⟩, ⟨x7, x8⟩⟩ i
            have py := part_bd (x := y) ⟨⟨y1, y2⟩, ⟨y3, y4⟩, ⟨y5, y6⟩, ⟨y7, y8⟩⟩ i
            k_extra "S"
            all_goals (
              rename News gg _ _ _ => N9
              refine comp_end hC2 hO (by k_extra "sm") (by assumption) N9 ⟨rfl, ?_, ?_, ?_⟩
              · rw [List.length_append, hlen]; rfl
              · omega
              · refine snoc_ints (f := fun j => 2 * (x.part j * D0 + (y.part j - x.part j) * W0)) hlen hys ?_; rfl)
          · intro lD C ys nw₁ s1 oC mC nD hDC hr9 hJ S1 F N hC
            refine hideG fun Gzq kzq => ?_
            obtain ⟨rfl, hlen, _, hys⟩ := hJ
            refine kzq ?_
            clear kzq Gzq
            clear F3 N3 hR
            refine done_assign (L := gL) ?v1 ?v2 ?v3 hDC hr9 F N hC ?v4
            case v1 => rfl
            case v2 => rfl
            case v3 => rfl
            intro h2 S3 F2 N2'
            clear F N hC hDC hr9
            refine hideG fun Gzq kzq => ?_
            obtain ⟨a0, a1, a2, a3, rfl⟩ := four_list hlen
            obtain ⟨p0, e0⟩ := hys 0 (by k_extra "om")
            obtain ⟨p1, e1⟩ := hys 1 (by k_extra "om")
            obtain ⟨p2, e2⟩ := hys 2 (by k_extra "om")
            obtain ⟨p3, e3⟩ := hys 3 (by k_extra "om")
            refine kzq ?_
            clear kzq Gzq
            simp only [List.getElem?_cons_zero, List.getElem?_cons_succ, Option.some.injEq] at e0 e1 e2 e3
            subst e0; subst e1; subst e2; subst e3
            clear hys
            simp only [List.append_nil] at N2'
            k_extra "S"
            (try k_unmd); k_fold
            refine comp_eval (by with_unfolding_all rfl) rfl (by decide) ?_
            k_extra "S"
            refine comp_list (l := lD) (vs := [.int (2 * (x.part 0 * D0 + (y.part 0 - x.part 0) * W0)) p0, .int (2 * (x.part 1 * D0 + (y.part 1 - x.part 1) * W0)) p1, .int (2 * (x.part 2 * D0 + (y.part 2 - x.part 2) * W0)) p2, .int (2 * (x.part 3 * D0 + (y.part 3 - x.part 3) * W0)) p3])
              (pin := (lD, listOf #[.int (2 * (x.part 0 * D0 + (y.part 0 - x.part 0) * W0)) p0, .int (2 * (x.part 1 * D0 + (y.part 1 - x.part 1) * W0)) p1, .int (2 * (x.part 2 * D0 + (y.part 2 - x.part 2) * W0)) p2, .int (2 * (x.part 3 * D0 + (y.part 3 - x.part 3) * W0)) p3] nD) :: [(gL + 1 + 1 + 1 + 1 + 1 + 1, c1), (gL + 1 + 1 + 1 + 1 + 1, c2), (gL + 1 + 1 + 1 + 1, c3), (gL + 1 + 1 + 1, c4), (gL + 1 + 1, c5), (gL + 1, c6)]) (nw := []) rfl (N2'.isList (.head _)) (.inr ⟨_, .head _⟩) (by decide) rfl
              (fun i ys nw => nw = [] ∧ ys.length = i ∧ i ≤ 4 ∧ ∀ j, j < i → ∃ t, ys[j]? = some (.int (mixAt x y T b j) t)) F2 (by rw [List.append_nil]; exact N2') ⟨rfl, rfl, by k_extra "om", fun j hj => absurd hj (by k_extra "om")⟩ (by rintro i ys nw ⟨_, h, h', _⟩; rw [sizeLine_eq]; (first | exact le_by (by assumption) (by assumption) (by rfl) | exact le_by2 (by assumption) (by assumption) (by rfl) | exact le_by3 (by assumption) (by assumption) (by assumption) (by rfl) | omega)) ?_ ?_
            · intro D C I i v hlt' hID hDC hv ys nw₁ s1 oI oC oD mC hJ hne hoD hoI S1 F N hC
              refine hideG fun Gzq kzq => ?_
              obtain ⟨rfl, hlen, hi4, hys⟩ := hJ
              refine kzq ?_
              clear kzq Gzq
              rw [List.append_nil] at hlt'
              refine assign_comp rfl rfl F N (Nat.ne_of_lt hDC) ?_ hC (fun h3 oC2 S2 F3 N3' hC2 => ?_)
              · intro p hp
                rcases List.mem_cons.mp hp with rfl | hp
                · exact Nat.ne_of_lt (Nat.lt_trans hID hDC)
                · rw [List.append_nil] at hp
                  exact Nat.ne_of_lt (Nat.lt_trans (hlt' p hp) (Nat.lt_trans hID hDC))
              refine wpAny_tests_nil ?_
              simp only [if_true]
              clear F N F2 N2'
              have hO : h3.heap.get? C = some oC2 := (N3' _ (.tail _ (.head _))).1
              refine hideG fun Gzq kzq => ?_
              obtain ⟨hi, tv, rfl⟩ := four_get (f := fun j => 2 * (x.part j * D0 + (y.part j - x.part j) * W0)) hv
              refine kzq ?_
              clear kzq Gzq
              clear hv
              have px := part_bd (x := x) ⟨⟨x1, x2⟩, ⟨x3, x4⟩, ⟨x5, x6⟩, ⟨x7, x8⟩⟩ i
              have py := part_bd (x := y) ⟨⟨y1, y2⟩, ⟨y3, y4⟩, ⟨y5, y6⟩, ⟨y7, y8⟩⟩ i
              k_extra "S"
              all_goals (
                rename News gg _ _ _ => N9
                refine comp_end hC2 hO (by k_extra "sm") (by assumption) N9 ⟨rfl, ?_, ?_, ?_⟩
                · rw [List.length_append, hlen]; rfl
                · omega
                · refine snoc_ints (f := fun j => mixAt x y T b j) hlen hys ?_
                  show _ = rnd _ _ (8 * T - x.o * b) ((y.o - x.o) * b)
                  rw [hW0, q6]; rfl)
            · intro lE C ys nw₁ s1 oC mC nE hDC hr9 hJ S1 F N hC
              refine hideG fun Gzq kzq => ?_
              obtain ⟨rfl, hlen, _, hys⟩ := hJ
              refine kzq ?_
              clear kzq Gzq
              refine done_eval hDC hr9 F N hC ?_
              intro h3 S3 F3 N3'
              clear F N hC hDC hr9 F2 N2'
              refine hideG fun Gzq kzq => ?_
              obtain ⟨a0, a1, a2, a3, rfl⟩ := four_list hlen
              obtain ⟨r0, e0⟩ := hys 0 (by show (0 : Nat) < 4; decide)
              obtain ⟨r1, e1⟩ := hys 1 (by show (1 : Nat) < 4; decide)
              obtain ⟨r2, e2⟩ := hys 2 (by show (2 : Nat) < 4; decide)
              obtain ⟨r3, e3⟩ := hys 3 (by show (3 : Nat) < 4; decide)
              refine kzq ?_
              clear kzq Gzq
              simp only [List.getElem?_cons_zero, List.getElem?_cons_succ, Option.some.injEq] at e0 e1 e2 e3
              subst e0; subst e1; subst e2; subst e3
              clear hys
              simp only [List.append_nil] at N3'
              have q7 : 8 * T - x.o * b = W0 := hW0
              have m0 : 0 ≤ mixAt x y T b 0 ∧ mixAt x y T b 0 ≤ 255 := rnd_bd ⟨x1, x2⟩ ⟨y1, y2⟩ (by k_extra "om") (by k_extra "om")
              have m1 : 0 ≤ mixAt x y T b 1 ∧ mixAt x y T b 1 ≤ 255 := rnd_bd ⟨x3, x4⟩ ⟨y3, y4⟩ (by k_extra "om") (by k_extra "om")
              have m2 : 0 ≤ mixAt x y T b 2 ∧ mixAt x y T b 2 ≤ 255 := rnd_bd ⟨x5, x6⟩ ⟨y5, y6⟩ (by k_extra "om") (by k_extra "om")
              have m3 : 0 ≤ mixAt x y T b 3 ∧ mixAt x y T b 3 ≤ 255 := rnd_bd ⟨x7, x8⟩ ⟨y7, y8⟩ (by k_extra "om") (by k_extra "om")
              k_extra "S"
              (all_goals (try dsimp only)); (all_goals (try k_unfold)); (all_goals (try dsimp only))
              exact retM (by assumption) (by assumption) (fun kF kN => ret _ _ _ _ _ _ (by k_extra "sm") kF (news_pick kN (by k_mem)))
end
end
end Mine

namespace Mine
section
theorem rl_LawD_1 : True := by
  k_with "eval Name" => (k_here; (fail_if_success (with_reducible show wpAny _ _ (eval (Expr.Name _ _) (compEnvC _ _ _ _)) _ _ _)); k_dflt (first | (refine' nameX_L ?Fzq ?vzq ?_ ?azq ?bzq; (case bzq => exact rfl); (case Fzq => k_asm); (case azq => exact rfl); (case vzq => first | exact rfl | assumption); k_whole) | (refine' nameX_K ?Fzq ?Xzq ?Tzq ?ezq ?_ ?azq ?bzq; (case bzq => exact rfl); (case Fzq => k_asm); (case Xzq => k_asm); (case Tzq => k_asm); (case azq => exact rfl); (case ezq => k_is); k_whole)))
  k_with "subscriptTail Name Constant ref int" => (k_here; k_dflt (refine' item_tupleT ?tzq ?azq ?bzq ?czq ?dzq ?_; (case tzq => (first | exact IsTup.keeps (by with_reducible assumption) (Fr.keep (by k_asm)) | exact News.isTup (by k_asm) (by k_mem) | exact tupK (Frag.In.keeps (by with_reducible assumption) (Fr.keep (by with_reducible assumption))) (by k_is))); (case azq => decide); (case bzq => decide); (case czq => rfl); (case dzq => rfl); k_whole))
  trivial


theorem rl_LawD_3 : True := by
  k_with "eval Name" => (k_here; k_inBlock; k_dflt (first | (refine' PyProof.Rows.ldVarK ?nzq ?vzq ?_ ?azq ?bzq ?czq; (case azq => rfl); (case bzq => rfl); (case czq => decide); (case nzq => first | assumption | exact ns_led (by assumption) (by assumption) (by k_mem) (by k_asm) (by k_mem)); (case vzq => first | rfl | assumption); k_whole) | (refine' PyProof.Rows.ldCellK ?czq ?vzq ?_ ?azq ?bzq ?dzq ?ezq; (case azq => rfl); (case bzq => rfl); (case dzq => decide); (case ezq => decide); (case czq => rfl); (case vzq => exact cell_led (by k_asm) (by k_mem) (by assumption)); k_whole)))
  trivial

/-- a stop as the law draws it: (eighths, shade, alpha) -/
inductive DrawnIn (own : List (Addr × Obj)) (v : Value) (x : Row) : Prop
  | mk (a : _) (t1 : _) (b : _) (t2 : _) (c1 : _) (c2 : _) (c3 : _) (q1 : v = .ref a) (q2 : (a, ({ cls := .type "tuple", data := .seq #[.int x.o t1, .ref b, .int x.al t2] } : Obj)) ∈ own) (q3 : (b, ({ cls := .type "tuple", data := .seq #[.int x.r c1, .int x.g c2, .int x.b c3] } : Obj)) ∈ own) : DrawnIn own v x
theorem DrawnIn.more {own own' : List (Addr × Obj)} {v : Value} {x : Row} (q : DrawnIn own v x) (hs : ∀ p ∈ own, p ∈ own') : DrawnIn own' v x := let ⟨a, t1, b, t2, c1, c2, c3, e, m1, m2⟩ := q; ⟨a, t1, b, t2, c1, c2, c3, e, hs _ m1, hs _ m2⟩
inductive DrawnsIn (own : List (Addr × Obj)) (v : Value) (rows : List Row) : Prop
  | mk (l : _) (vs : _) (n : _) (q1 : v = .ref l) (q2 : (l, listOf vs.toArray n) ∈ own) (q3 : Paired (DrawnIn own) vs rows) : DrawnsIn own v rows
theorem menu_shade {x : Value} {t1 t2 t3 t4 : Tok} (h : x ∈ [Value.int 0 t1, .int 7 t2, .int 128 t3, .int 255 t4]) : ∃ c t, x = .int c t ∧ 0 ≤ c ∧ c ≤ 255 := by
  simp only [List.mem_cons, List.not_mem_nil, or_false] at h
  rcases h with rfl | rfl | rfl | rfl <;> exact ⟨_, _, rfl, by decide, by decide⟩
theorem menu_alpha {x : Value} {t1 t2 t3 t4 : Tok} (h : x ∈ [Value.int 0 t1, .int 100 t2, .int 255 t3, .int 255 t4]) : ∃ c t, x = .int c t ∧ 0 ≤ c ∧ c ≤ 255 := by
  simp only [List.mem_cons, List.not_mem_nil, or_false] at h
  rcases h with rfl | rfl | rfl | rfl <;> exact ⟨_, _, rfl, by decide, by decide⟩
theorem menu_place {x : Value} {t1 t2 t3 t4 t5 t6 t7 t8 t9 t10 : Tok} (h : x ∈ [Value.int 0 t1, .int 0 t2, .int 2 t3, .int 4 t4, .int 4 t5, .int 5 t6, .int 8 t7, .int 8 t8, .int (-1) t9, .int 9 t10]) : ∃ c t, x = .int c t ∧ -1 ≤ c ∧ c ≤ 9 := by
  simp only [List.mem_cons, List.not_mem_nil, or_false] at h
  rcases h with rfl | rfl | rfl | rfl | rfl | rfl | rfl | rfl | rfl | rfl <;> exact ⟨_, _, rfl, by decide, by decide⟩
section
variable {prog : Program} {w : World} {p : Program} {loose : List Str} {mean : ExcName → Option Value} {mg mb : Str → Option Value}
  {dp un : Nat} {gd : Option (List Code)} {cn : Str} {cs : Scope} {a : Addr} {ccd : Value} {cl : List (Str × Addr)} {outer : List Env} {A₀ : Around} {base h₀ : Heap} {L : Addr}
  {m : Str → Option Value} {news : List (Addr × Obj)} {s : Shared} {Q E : Value → Shared → Prop}
theorem law_stops_spec {src : Addr} {s0 s1 : Int} {u1 u2 : Tok} {n : Nat} {rest : List (Addr × Obj)} (zB : Below A₀ base outer h₀) (zF : Fr h₀ L s.heap m) (zX : (hd.heap_39 w.params).In h₀) (zN : News h₀ L s.heap news) (zT : Top p loose mean mg mb h₀) (zk : cs.kind = .function) (hd : dp + 4 < recursionLimit) (hu : un + 80 < cLine) (hsp : Split news src (listOf #[.int s0 u1, .int s1 u2] n) rest) (hdis : Apart src rest) (h0 : 0 ≤ s0) (h1 : 0 ≤ s1 ∧ s1 < 2147483647)
    (ret : ∀ v rows own z0 z1 v1 v2 n' s', 0 ≤ z0 → (0 ≤ z1 ∧ z1 < 2147483647) → Apart src own → DrawnsIn own v rows → (0 < rows.length ∧ rows.length ≤ 4) → (∀ x ∈ rows, x.ok ∧ -1 ≤ x.o ∧ x.o ≤ 9) → Sm s s' → Fr h₀ L s'.heap m → News h₀ L s'.heap ((src, listOf #[.int z0 v1, .int z1 v2] n') :: (own ++ rest)) → Q v s') :
    wpAny (model prog w) (ktrTop dp un gd cn cs L a ccd cl outer) (call (.ref 492) [.ref src]) Q E s := by
  k_dflt (refine' enterC (mu := [(src, listOf #[.int s0 u1, .int s1 u2] n)]) (binds := [(Str.ofString "source", .ref src)]) zB zF zX (Split.news hsp zN) (fun q hq hm => hdis q hq (List.mem_singleton.mp hm)) zT zk ?k6 ?k7 ?k8 ?k9 ?kB ?kD ?c2 ?c3 ?c4 ?_; (case k6 => k_is); (case k7 => k_is); (case k8 => k_extra "om"); (case k9 => first | exact BindsTo.of_eq rfl | exact binds_K (Frag.In.keeps zX zF.keep) rfl (by k_is) rfl rfl rfl); (case kB => exact rfl); (case kD => decide +kernel); (case c2 => exact rfl); (case c3 => exact rfl); (case c4 => exact rfl); k_whole; intro gg gL gs gcells gS gG gF gN gY gl gB gX gT gA; (try dsimp only); (try k_fold))
  k_cells gY
  simp only [List.cons_append, List.nil_append] at gN
  have hce : gL + 1 ≠ src := Ne.symm (Nat.ne_of_lt (Nat.lt_succ_of_lt (gl _ (.head _))))
  k_extra "S"
  refine wpAny_For ?_
  k_extra "S"
  rename IsRange _ _ _ _ _ _ _ _ => hR
  rename Fr _ _ _ _ => F2
  rename News _ _ _ _ => N2
  refine hideG fun Gzq kzq => ?_
  obtain ⟨lf, z0, z1, v1, v2, nS, oc, rr, mm, F2, hfd, N2, hb0, hb1, hr0, hcell, hR⟩ : ∃ lf z0 z1 v1 v2 nS oc rr mm, Fr gg gL _ mm ∧ mm (Str.ofString "found") = some (.ref lf) ∧ News gg gL _ [(src, listOf #[.int z0 v1, .int z1 v2] nS), (lf, listOf #[] 0), (gL + 1, oc)] ∧ 0 ≤ z0 ∧ (0 ≤ z1 ∧ z1 < 2147483647) ∧ (0 ≤ rr ∧ rr < 4) ∧ oc.data = .cell (some (.ref src)) ∧ IsRange _ _ _ (1 + rr) _ _ _ _ := ⟨_, _, _, _, _, _, _, _, _, F2, rfl, N2, by assumption, by assumption, by assumption, by assumption, hR⟩
  refine kzq ?_
  clear kzq Gzq
  have hlf : lf ≠ src := ne_of_data N2 (.tail _ (.head _)) (.head _) (by intro hq; cases hq)
  have hcl : gL + 1 ≠ lf := ne_of_data N2 (.tail _ (.tail _ (.head _))) (.tail _ (.head _)) (by rw [hcell]; intro h; cases h)
  have hrs : Builtin.Range.rangeSize 0 (1 + rr) 1 = ((1 + rr).toNat : Int) := by rw [rangeSize_one]; split <;> omega
  refine for_range (r := _) (n := (1 + rr).toNat) (pin := [(gL + 1, oc)]) (nw := [(src, listOf #[.int z0 v1, .int z1 v2] nS), (lf, listOf #[] 0)]) rfl hR (small_one (by k_extra "om") (by k_extra "om") (by k_extra "om") (by k_extra "om")) hrs
    (fun i m₁ nw => ∃ z0 z1 v1 v2 nS ys nD acc rows, nw = (src, listOf #[.int z0 v1, .int z1 v2] nS) :: (lf, listOf ys.toArray nD) :: acc ∧ 0 ≤ z0 ∧ (0 ≤ z1 ∧ z1 < 2147483647) ∧ Apart src acc ∧ Apart lf acc ∧ m₁ (Str.ofString "found") = some (.ref lf) ∧ Paired (DrawnIn acc) ys rows ∧ rows.length = i ∧ (∀ x ∈ rows, x.ok ∧ -1 ≤ x.o ∧ x.o ≤ 9))
    F2 (fun q hq => N2 q (by simp only [List.cons_append, List.nil_append, List.mem_cons, List.not_mem_nil, or_false] at hq ⊢; grind)) ?_ ?_ ?_
  · exact ⟨_, _, _, _, _, [], 0, [], [], rfl, hb0, hb1, Apart.nil, Apart.nil, hfd, .nil, rfl, fun x h => nomatch h⟩
  · intro I i tv hlt hi m₁ nw₁ s1 oI hJ hne ⟨fI, hoI⟩ S1 F N
    refine hideG fun Gzq kzq => ?_
    obtain ⟨z0, z1, v1, v2, nS, ys, nD, acc, rows, rfl, hb0, hb1, hac, hal, hm1, hys, hrl, hrows⟩ := hJ
    refine kzq ?_
    clear kzq Gzq
    clear F2 N2 hR
    have hIs : I ≠ src := Ne.symm (hne _ (.head _))
    have hIl : I ≠ lf := Ne.symm (hne _ (.tail _ (.head _)))
    k_extra "S"
    (try k_unmd); k_fold
    refine comp_eval (by with_unfolding_all rfl) rfl (by decide) ?_
    k_extra "S"
    rename IsRange _ _ _ _ _ _ _ _ => hR
    rename Fr _ _ _ _ => F3
    rename News _ _ _ _ => N3
    refine comp_range (n := 3) (pin := (I, oI) :: (gL + 1, oc) :: (lf, listOf ys.toArray nD) :: acc) (nw := [(src, listOf #[.int z0 v1, .int z1 v2] nS)]) rfl hR (by decide) (by decide) (by decide) rfl
      (fun i ys nw => ∃ z0 z1 v1 v2 nS, nw = [(src, listOf #[.int z0 v1, .int z1 v2] nS)] ∧ 0 ≤ z0 ∧ (0 ≤ z1 ∧ z1 < 2147483647) ∧ ys.length = i ∧ i ≤ 3 ∧ ∀ y ∈ ys, ∃ c t, y = .int c t ∧ 0 ≤ c ∧ c ≤ 255) F3 (fun q hq => N3 q (by simp only [List.cons_append, List.nil_append, List.mem_append, List.mem_cons, List.not_mem_nil, or_false] at hq ⊢; grind)) ⟨_, _, _, _, _, rfl, hb0, hb1, rfl, by k_extra "om", fun y hy => nomatch hy⟩ (by rintro i ys nw ⟨_, _, _, _, _, _, _, _, h, h', _⟩; rw [sizeLine_eq]; (first | exact le_by (by assumption) (by assumption) (by rfl) | exact le_by2 (by assumption) (by assumption) (by rfl) | exact le_by3 (by assumption) (by assumption) (by assumption) (by rfl) | omega)) ?_ ?_
    · intro D C I2 i2 tv2 hlt2 hID hDC hi2 ys2 nw₂ s2 oI2 oC oD mC hJ2 hne2 hoD hoI2 S4 F N hC
      refine hideG fun Gzq kzq => ?_
      obtain ⟨z0, z1, v1, v2, nS, rfl, hb0, hb1, hlen2, hi3, hys2⟩ := hJ2
      refine kzq ?_
      clear kzq Gzq
      clear F3 N3 hR
      have sI2 : src < I2 := hlt2 _ (List.mem_append_right _ (.head _))
      have nI2 : I2 ≠ src := Ne.symm (Nat.ne_of_lt sI2)
      have nD2 : D ≠ src := Ne.symm (Nat.ne_of_lt (Nat.lt_trans sI2 hID))
      have nC2 : C ≠ src := Ne.symm (Nat.ne_of_lt (Nat.lt_trans sI2 (Nat.lt_trans hID hDC)))
      refine assign_comp rfl rfl F N (Nat.ne_of_lt hDC) ?_ hC (fun h3 oC2 S2 F2 N2' hC2 => ?_)
      · intro p hp
        rcases List.mem_cons.mp hp with rfl | hp
        · exact Nat.ne_of_lt (Nat.lt_trans hID hDC)
        · rcases List.mem_append.mp hp with hp | hp
          · exact Nat.ne_of_lt (Nat.lt_trans (hlt2 p (List.mem_append_left _ hp)) (Nat.lt_trans hID hDC))
          · rw [List.mem_singleton.mp hp]; exact Nat.ne_of_lt (Nat.lt_trans sI2 (Nat.lt_trans hID hDC))
      refine wpAny_tests_nil ?_
      simp only [if_true]
      clear F N
      replace N2' : News gg gL h3.heap ((D, oD) :: (C, oC2) :: (I2, oI2) :: (src, listOf #[.int z0 v1, .int z1 v2] nS) :: (I, oI) :: (gL + 1, oc) :: (lf, listOf ys.toArray nD) :: acc) := fun q hq => N2' q (by simp only [List.cons_append, List.mem_append, List.mem_cons, List.not_mem_nil, or_false] at hq ⊢; grind)
      have hO : h3.heap.get? C = some oC2 := (N2' _ (.tail _ (.head _))).1
      k_extra "S"
      rename News gg _ _ _ => N9
      rename_i x9 z09 z19 v19 v29 n9 s9 b91 b92 b93 S9 F9
      refine hideG fun Gzq kzq => ?_
      obtain ⟨c, t, rfl, hc0, hc1⟩ := menu_shade b93
      refine kzq ?_
      clear kzq Gzq
      refine CompOut.mk _ [(src, listOf #[.int z09 v19, .int z19 v29] n9)] _ oC2 (by k_extra "sm") (by assumption) N9 (.tail _ (.tail _ (.head _))) (.tail _ (.tail _ (.tail _ (.head _)))) (.tail _ (.tail _ (.tail _ (.tail _ (.head _))))) (hC2.at' fun o e => ?_) ?_ ?_ ?_ ⟨_, _, _, _, _, rfl, b91, b92, ?_, ?_, ?_⟩
      · rw [hO] at e; cases e; exact (N9 _ (.tail _ (.tail _ (.tail _ (.head _))))).1
      · intro q hq
        exact .tail _ (.tail _ (.tail _ (.tail _ (.tail _ hq))))
      · intro q hq
        rw [List.mem_singleton.mp hq]; exact .head _
      · intro q hq
        rw [List.mem_singleton.mp hq]; exact ⟨Ne.symm nD2, Ne.symm nC2, Ne.symm nI2⟩
      · rw [List.length_append, hlen2]; rfl
      · omega
      · intro y hy
        rcases List.mem_append.mp hy with hy | hy
        · exact hys2 y hy
        · rw [List.mem_singleton.mp hy]; exact ⟨_, _, rfl, hc0, hc1⟩
    · intro lC C ys2 nw₂ s2 oC mC nC hDC hr9 hJ2 S4 F N hC
      refine hideG fun Gzq kzq => ?_
      obtain ⟨z0, z1, v1, v2, nS, rfl, hb0, hb1, hlen2, hi3, hys2⟩ := hJ2
      refine kzq ?_
      clear kzq Gzq
      refine done_eval hDC hr9 F N hC ?_
      intro h3 S3 F4 N4
      clear F N hC F3 N3
      refine hideG fun Gzq kzq => ?_
      obtain ⟨a0, a1, a2, rfl⟩ := three_list hlen2
      obtain ⟨c0, e0, rfl, k0, k1⟩ := hys2 a0 (by simp)
      obtain ⟨c1, e1, rfl, k2, k3⟩ := hys2 a1 (by simp)
      obtain ⟨c2, e2, rfl, k4, k5⟩ := hys2 a2 (by simp)
      refine kzq ?_
      clear kzq Gzq
      have nlC : lC ≠ src := Ne.symm (hr9 _ (List.mem_append_right _ (.head _))).1
      have nlf : lC ≠ lf := Ne.symm (hr9 _ (List.mem_append_left _ (.tail _ (.tail _ (.head _))))).1
      replace N4 : News gg gL h3.heap ((lC, listOf #[.int c0 e0, .int c1 e1, .int c2 e2] nC) :: (src, listOf #[.int z0 v1, .int z1 v2] nS) :: (I, oI) :: (gL + 1, oc) :: (lf, listOf ys.toArray nD) :: acc) := fun q hq => N4 q (by simp only [List.cons_append, List.mem_append, List.mem_cons, List.not_mem_nil, or_false] at hq ⊢; grind)
      clear hr9 hys2 hDC
      k_extra "S"
      rename_i DS _ _ _ _ _ _ _ xp _ _ _ _ _ _ _ _ bp _ _ _ _ xa za0 za1 va0 va1 na _ ba0 ba1 bal _ DT h5 _ F5 N5
      refine hideG fun Gzq kzq => ?_
      obtain ⟨cp, tp, rfl, p0, p1⟩ := menu_place bp
      obtain ⟨ca, ta, rfl, a0, a1⟩ := menu_alpha bal
      refine kzq ?_
      clear kzq Gzq
      have n1 : DT ≠ lf := tup_ne_list N5 (.head _) (show (lf, listOf ys.toArray nD) ∈ _ by k_mem)
      have n2 : DT ≠ src := tup_ne_list N5 (.head _) (show (src, listOf #[.int za0 va0, .int za1 va1] na) ∈ _ by k_mem)
      have n3 : DS ≠ lf := tup_ne_list N5 (show (DS, ({ cls := .type "tuple", data := .seq #[.int c0 e0, .int c1 e1, .int c2 e2] } : Obj)) ∈ _ by k_mem) (show (lf, listOf ys.toArray nD) ∈ _ by k_mem)
      have n4 : DS ≠ src := tup_ne_list N5 (show (DS, ({ cls := .type "tuple", data := .seq #[.int c0 e0, .int c1 e1, .int c2 e2] } : Obj)) ∈ _ by k_mem) (show (src, listOf #[.int za0 va0, .int za1 va1] na) ∈ _ by k_mem)
      have n5 : DT ≠ I := tup_ne_it N5 (.head _) (show (I, oI) ∈ _ by k_mem) hoI
      have n6' : DS ≠ I := tup_ne_it N5 (show (DS, ({ cls := .type "tuple", data := .seq #[.int c0 e0, .int c1 e1, .int c2 e2] } : Obj)) ∈ _ by k_mem) (show (I, oI) ∈ _ by k_mem) hoI
      refine append_led (lst := lf) (ys := ys) (nD := nD) (l' := (src, listOf #[.int za0 va0, .int za1 va1] na) :: (DT, { cls := .type "tuple", data := .seq #[.int cp tp, .ref DS, .int ca ta] }) :: (DS, { cls := .type "tuple", data := .seq #[.int c0 e0, .int c1 e1, .int c2 e2] }) :: (I, oI) :: (gL + 1, oc) :: acc) F5 N5 (by k_mem) (all_cons ⟨by k_mem, Ne.symm hlf⟩ (all_cons ⟨by k_mem, n1⟩ (all_cons ⟨by k_mem, n3⟩ (all_cons ⟨by k_mem, hIl⟩ (all_cons ⟨by k_mem, hcl⟩ fun p hp => ⟨by (repeat (first | assumption | refine' List.Mem.tail _ ?_ | refine' List.mem_append_right _ ?_)), hal p hp⟩))))) ?_ ?_
      · have := hys.length
        rw [sizeLine_eq]; (first | exact le_by (by assumption) (by assumption) (by rfl) | exact le_by2 (by assumption) (by assumption) (by rfl) | exact le_by3 (by assumption) (by assumption) (by assumption) (by rfl) | omega)
      · intro h6 n6 S6 F6 N6
        clear F5 N5
        k_extra "S"
        refine ForOn.mk _ ((src, listOf #[.int za0 va0, .int za1 va1] na) :: (lf, listOf (ys ++ [Value.ref DT]).toArray n6) :: (DT, { cls := .type "tuple", data := .seq #[.int cp tp, .ref DS, .int ca ta] }) :: (DS, { cls := .type "tuple", data := .seq #[.int c0 e0, .int c1 e1, .int c2 e2] }) :: acc) _ (by k_extra "sm") (by assumption) (by assumption) (by k_mem) (all_cons (by k_mem) all_nil) (all_cons (by k_mem) (all_cons (by k_mem) (all_cons (by k_mem) (all_cons (by k_mem) fun p hp => by (repeat (first | assumption | refine' List.Mem.tail _ ?_ | refine' List.mem_append_right _ ?_))))))
          (all_cons (Ne.symm hIs) (all_cons (Ne.symm hIl) (all_cons n5 (all_cons n6' fun p hp => hne p (.tail _ (.tail _ hp)))))) ?_
        · refine ⟨za0, za1, va0, va1, na, ys ++ [.ref DT], n6, _, rows ++ [⟨cp, c0, c1, c2, ca⟩], rfl, ba0, ba1, Apart.cons n2 (Apart.cons n4 hac), Apart.cons n1 (Apart.cons n3 hal), hm1, ?_, ?_, ?_⟩
          · exact Paired.snoc (paired_mono (fun _ _ q => q.more fun p hp => .tail _ (.tail _ hp)) hys) ⟨DT, tp, DS, ta, e0, e1, e2, rfl, .head _, .tail _ (.head _)⟩
          · rw [List.length_append, hrl]; rfl
          · intro x hx
            rcases List.mem_append.mp hx with hx | hx
            · exact hrows x hx
            · rw [List.mem_singleton.mp hx]
              exact ⟨⟨⟨k0, k1⟩, ⟨k2, k3⟩, ⟨k4, k5⟩, ⟨a0, a1⟩⟩, p0, p1⟩
  · intro m₁ nw₁ s1 hJ S1 F N
    refine hideG fun Gzq kzq => ?_
    obtain ⟨z0, z1, v1, v2, nS, ys, nD, acc, rows, rfl, hb0, hb1, hac, hal, hm1, hys, hrl, hrows⟩ := hJ
    refine kzq ?_
    clear kzq Gzq
    clear F2 N2 hR
    k_extra "S"
    (all_goals (try dsimp only)); (all_goals (try k_unfold)); (all_goals (try dsimp only))
    refine retM (by assumption) N (fun kF kN => ret _ rows ((lf, listOf ys.toArray nD) :: acc) z0 z1 v1 v2 nS _ hb0 hb1 (Apart.cons hlf hac) ⟨lf, ys, nD, rfl, .head _, paired_mono (fun _ _ q => q.more fun p hp => .tail _ hp) hys⟩ (by rw [hrl]; omega) hrows (by k_extra "sm") kF (fun q hq => kN q (by simp only [List.cons_append, List.nil_append, List.mem_append, List.mem_cons] at hq ⊢; rcases hq with h | h | h | h <;> simp [h])))
end
end
end Mine

namespace Mine
section
theorem rl_LawE_1 : True := by
  k_with "eval Name" => (k_here; (fail_if_success (with_reducible show wpAny _ _ (eval (Expr.Name _ _) (compEnvC _ _ _ _)) _ _ _)); k_dflt (first | (refine' nameX_L ?Fzq ?vzq ?_ ?azq ?bzq; (case bzq => exact rfl); (case Fzq => k_asm); (case azq => exact rfl); (case vzq => first | exact rfl | assumption); k_whole) | (refine' nameX_K ?Fzq ?Xzq ?Tzq ?ezq ?_ ?azq ?bzq; (case bzq => exact rfl); (case Fzq => k_asm); (case Xzq => k_asm); (case Tzq => k_asm); (case azq => exact rfl); (case ezq => k_is); k_whole)))
  trivial


inductive DrawnAt (h : Heap) (v : Value) (x : Row) : Prop
  | mk (a : _) (t1 : _) (b : _) (t2 : _) (c1 : _) (c2 : _) (c3 : _) (q1 : v = .ref a) (q2 : IsTup h a #[.int x.o t1, .ref b, .int x.al t2]) (q3 : IsTup h b #[.int x.r c1, .int x.g c2, .int x.b c3]) : DrawnAt h v x
theorem DrawnAt.keeps {h h' : Heap} {v : Value} {x : Row} (q : DrawnAt h v x) (hk : ∀ b o, h.get? b = some o → h'.get? b = some o) : DrawnAt h' v x := let ⟨a, t1, b, t2, c1, c2, c3, e, i, j⟩ := q; ⟨a, t1, b, t2, c1, c2, c3, e, i.keeps hk, j.keeps hk⟩
inductive DrawnsAt (h : Heap) (v : Value) (rows : List Row) : Prop
  | mk (l : _) (vs : _) (q1 : v = .ref l) (q2 : h.IsList l vs.toArray) (q3 : Paired (DrawnAt h) vs rows) : DrawnsAt h v rows
theorem DrawnsAt.keeps {h h' : Heap} {v : Value} {rows : List Row} (q : DrawnsAt h v rows) (hk : ∀ b o, h.get? b = some o → h'.get? b = some o) : DrawnsAt h' v rows := let ⟨l, vs, e, i, p⟩ := q; ⟨l, vs, e, isList_keeps i hk, paired_mono (fun _ _ x => x.keeps hk) p⟩
theorem DrawnsIn.at {own : List (Addr × Obj)} {v : Value} {rows : List Row} {h : Heap} (q : DrawnsIn own v rows) (hh : ∀ q ∈ own, h.get? q.1 = some q.2) : DrawnsAt h v rows := by
  obtain ⟨l, vs, n, rfl, hm, hp⟩ := q
  refine ⟨l, vs, rfl, ⟨_, hh _ hm, rfl, n, rfl⟩, paired_mono (fun v x q => ?_) hp⟩
  obtain ⟨a, t1, b, t2, c1, c2, c3, rfl, m1, m2⟩ := q
  exact ⟨a, t1, b, t2, c1, c2, c3, rfl, tup_own hh m1, tup_own hh m2⟩
inductive OrdIn (own : List (Addr × Obj)) (v : Value) (x : Row) : Prop
  | mk (a : _) (t1 : _) (b : _) (c1 : _) (c2 : _) (c3 : _) (c4 : _) (q1 : v = .ref a) (q2 : (a, ({ cls := .type "tuple", data := .seq #[.int x.o t1, .ref b] } : Obj)) ∈ own) (q3 : (b, fourO x.r x.g x.b x.al c1 c2 c3 c4) ∈ own) : OrdIn own v x
theorem OrdIn.more {own own' : List (Addr × Obj)} {v : Value} {x : Row} (q : OrdIn own v x) (hs : ∀ p ∈ own, p ∈ own') : OrdIn own' v x := let ⟨a, t1, b, c1, c2, c3, c4, e, m1, m2⟩ := q; ⟨a, t1, b, c1, c2, c3, c4, e, hs _ m1, hs _ m2⟩
section
variable {prog : Program} {w : World} {p : Program} {loose : List Str} {mean : ExcName → Option Value} {mg mb : Str → Option Value}
  {dp un : Nat} {gd : Option (List Code)} {cn : Str} {cs : Scope} {a : Addr} {ccd : Value} {cl : List (Str × Addr)} {outer : List Env} {A₀ : Around} {base h₀ : Heap} {L : Addr}
  {m : Str → Option Value} {news : List (Addr × Obj)} {s : Shared} {Q E : Value → Shared → Prop}
theorem law_ordered_spec {vl : Value} {rows : List Row} (zB : Below A₀ base outer h₀) (zF : Fr h₀ L s.heap m) (zX : (hd.heap_39 w.params).In h₀) (zN : News h₀ L s.heap news) (zT : Top p loose mean mg mb h₀) (zk : cs.kind = .function) (hd : dp + 1 < recursionLimit) (hu : un + 20 < cLine) (hl : DrawnsAt s.heap vl rows) (hn4 : rows.length ≤ 4) (hr : ∀ x ∈ rows, x.ok ∧ -1 ≤ x.o ∧ x.o ≤ 9)
    (ret : ∀ v own s', Holds w own (fun h => OrdsAt h v (ordF 0 rows)) → (∀ q ∈ own, s.heap.get? q.1 = none) → Sm s s' → Fr h₀ L s'.heap m → News h₀ L s'.heap (own ++ news) → Q v s') :
    wpAny (model prog w) (ktrTop dp un gd cn cs L a ccd cl outer) (call (.ref 499) [vl]) Q E s := by
  obtain ⟨l, vs, rfl, il, hp⟩ := hl
  k_dflt (refine' enterM (mu := []) (binds := [(Str.ofString "stops", .ref l)]) zB zF zX zN (fun _ _ h => nomatch h) zT zk ?k6 ?k7 ?k8 ?k9 ?kB ?c2 ?c3 ?c4 ?c5 ?_; (case k6 => k_is); (case k7 => k_is); (case k8 => k_extra "om"); (case k9 => first | exact BindsTo.of_eq rfl | exact binds_K (Frag.In.keeps zX zF.keep) rfl (by k_is) rfl rfl rfl); (case c5 => decide); (case kB => exact locs rfl); (case c2 => exact rfl); (case c3 => exact rfl); (case c4 => exact rfl); k_whole; intro gg gL gs gS gG gF gN gB gX gT gA gE; (try dsimp only); (try k_fold))
  have il := isList_keeps il fun b o e => gG b o e (fun h => nomatch h)
  have hp := paired_mono (fun _ _ q => DrawnAt.keeps q fun b o e => gG b o e (fun h => nomatch h)) hp
  k_extra "S"
  refine wpAny_For ?_
  k_extra "S"
  rename Fr _ _ _ _ => F2
  rename News _ _ _ _ => N2
  refine hideG fun Gzq kzq => ?_
  obtain ⟨lf, mm, t0, F2, N2, hm1, hm2⟩ : ∃ lf mm t0, Fr gg gL _ mm ∧ News gg gL _ [(lf, listOf #[] 0)] ∧ mm (Str.ofString "found") = some (.ref lf) ∧ mm (Str.ofString "last") = some (.int 0 t0) := ⟨_, _, _, F2, (fun q hq => N2 q (by simp only [List.mem_singleton] at hq; subst hq; k_mem)), rfl, rfl⟩
  refine kzq ?_
  clear kzq Gzq
  refine for_list (l := l) (vs := vs) (pin := []) (nw := [(lf, listOf #[] 0)]) rfl (isList_keeps il F2.keep) (.inl ⟨_, il.choose_spec.1⟩)
    (fun i m₁ nw => ∃ ys nD acc lo tlo, nw = (lf, listOf ys.toArray nD) :: acc ∧ Apart lf acc ∧ m₁ (Str.ofString "found") = some (.ref lf) ∧ m₁ (Str.ofString "last") = some (.int lo tlo) ∧ lo = lastO 0 (rows.take i) ∧ Paired (OrdIn acc) ys (ordF 0 (rows.take i)))
    F2 (fun q hq => N2 q (by simpa using hq)) ?_ ?_ ?_
  · exact ⟨[], 0, [], 0, t0, rfl, Apart.nil, hm1, hm2, by simp [lastO], by simpa [ordF] using Paired.nil⟩
  · intro I i v hlt hv m₁ nw₁ s1 oI hJ hne ⟨fI, hoI⟩ S1 F N
    refine hideG fun Gzq kzq => ?_
    obtain ⟨ys, nD, acc, lo, tlo, rfl, hal, hm1, hm2, hlo, hys⟩ := hJ
    refine kzq ?_
    clear kzq Gzq
    clear F2 N2
    simp only [List.nil_append] at N
    refine hideG fun Gzq kzq => ?_
    obtain ⟨x, hx, a1, t1, b1, t2, c1, c2, c3, rfl, ia, ib⟩ := paired_get hp i v hv
    refine kzq ?_
    clear kzq Gzq
    have hIl : I ≠ lf := Ne.symm (hne _ (.head _))
    refine hideG fun Gzq kzq => ?_
    obtain ⟨_, hx1, hx2⟩ := hr x (List.mem_of_getElem? hx)
    refine kzq ?_
    clear kzq Gzq
    have hb := lastO_bd 0 (rows.take i) (by k_extra "om")
    have htake : rows.take (i + 1) = rows.take i ++ [x] := by rw [List.take_add_one, hx]; rfl
    k_extra "S"
    · exact absurd (show [x.r, x.g, x.b] = [] by assumption) (by simp)
    generalize hlv : (if (if (if x.o > 0 then x.o else 0) < 8 then if x.o > 0 then x.o else 0 else 8) > lo then
            if (if x.o > 0 then x.o else 0) < 8 then if x.o > 0 then x.o else 0 else 8
          else lo) = lv at *
    have hlv2 : lv = lastO 0 (rows.take (i + 1)) := by
      rw [htake, lastO_snoc, ← hlo, ← hlv]
      omega
    rename News gg _ _ _ => N5
    rename Fr gg _ _ _ => F5
    rename_i D1 sH _ _ _ DT s5 _
    generalize sH.heap.objs.size = DS at *
    refine hideG fun Gzq kzq => ?_
    obtain ⟨tv, o1, N5⟩ : ∃ tv o1, News gg gL s5.heap ((DT, ({ cls := .type "tuple", data := .seq #[.int lv tv, .ref DS] } : Obj)) :: (DS, fourO x.r x.g x.b x.al c1 c2 c3 t2) :: (D1, o1) :: (I, oI) :: (lf, listOf ys.toArray nD) :: acc) := ⟨_, _, N5⟩
    refine kzq ?_
    clear kzq Gzq
    have n1 : DT ≠ lf := tup_ne_list N5 (.head _) (.tail _ (.tail _ (.tail _ (.tail _ (.head _)))))
    have n5 : DT ≠ I := tup_ne_it N5 (.head _) (.tail _ (.tail _ (.tail _ (.head _)))) hoI
    have n3 : DS ≠ lf := tup_ne_list N5 (.tail _ (.head _)) (.tail _ (.tail _ (.tail _ (.tail _ (.head _)))))
    have n6 : DS ≠ I := tup_ne_it N5 (.tail _ (.head _)) (.tail _ (.tail _ (.tail _ (.head _)))) hoI
    refine append_led (lst := lf) (ys := ys) (nD := nD) (l' := (DT, ({ cls := .type "tuple", data := .seq #[.int lv tv, .ref DS] } : Obj)) :: (DS, fourO x.r x.g x.b x.al c1 c2 c3 t2) :: (I, oI) :: acc) F5 N5 (by k_mem) (all_cons ⟨.head _, n1⟩ (all_cons ⟨.tail _ (.head _), n3⟩ (all_cons ⟨by k_mem, hIl⟩ fun p hp => ⟨by (repeat (first | assumption | refine' List.Mem.tail _ ?_ | refine' List.mem_append_right _ ?_)), hal p hp⟩))) ?_ ?_
    · have := hys.length
      rw [ordF_len, List.length_take] at this
      rw [sizeLine_eq]; (first | exact le_by (by assumption) (by assumption) (by rfl) | exact le_by2 (by assumption) (by assumption) (by rfl) | exact le_by3 (by assumption) (by assumption) (by assumption) (by rfl) | omega)
    · intro h6 n6' S6 F6 N6
      clear F5 N5
      k_extra "S"
      refine ForOn.mk _ ((lf, listOf (ys ++ [Value.ref DT]).toArray n6') :: (DT, ({ cls := .type "tuple", data := .seq #[.int lv tv, .ref DS] } : Obj)) :: (DS, fourO x.r x.g x.b x.al c1 c2 c3 t2) :: acc) _ (by k_extra "sm") (by assumption) (by assumption) (by k_mem) all_nil (all_cons (by k_mem) (all_cons (by k_mem) (all_cons (by k_mem) fun p hp => by (repeat (first | assumption | refine' List.Mem.tail _ ?_ | refine' List.mem_append_right _ ?_)))))
        (all_cons (Ne.symm hIl) (all_cons n5 (all_cons n6 fun p hp => hne p (.tail _ hp)))) ?_
      · refine ⟨_, n6', _, lv, _, rfl, Apart.cons n1 (Apart.cons n3 hal), hm1, rfl, hlv2, ?_⟩
        rw [htake, ordF_snoc]
        refine Paired.snoc (paired_mono (fun _ _ q => q.more fun p hp => .tail _ (.tail _ hp)) hys) ⟨DT, tv, DS, c1, c2, c3, t2, rfl, ?_, .tail _ (.head _)⟩
        rw [htake, lastO_snoc] at hlv2
        rw [← hlv2]
        exact .head _
  · intro m₁ nw₁ s1 hJ S1 F N
    refine hideG fun Gzq kzq => ?_
    obtain ⟨ys, nD, acc, lo, tlo, rfl, hal, hm1, hm2, hlo, hys⟩ := hJ
    refine kzq ?_
    clear kzq Gzq
    clear F2 N2
    rw [hp.length, List.take_length] at hys
    k_extra "S"
    (all_goals (try dsimp only)); (all_goals (try k_unfold)); (all_goals (try dsimp only))
    refine retM (by assumption) N (fun kF kN => ret _ ((lf, listOf ys.toArray nD) :: acc) _ ?_ (fun q hq => fresh_of N (fun b o e => gG b o e (fun h => nomatch h)) q (by simpa using hq)) (by k_extra "sm") kF (fun q hq => kN q (by simpa using hq)))
    intro h2 X2 hh
    refine ⟨lf, ys, rfl, ⟨_, hh _ (.head _), rfl, nD, rfl⟩, paired_mono (fun v x q => ?_) hys⟩
    refine hideG fun Gzq kzq => ?_
    obtain ⟨a, t1, b, c1, c2, c3, c4, rfl, m1, m2⟩ := q
    refine kzq ?_
    clear kzq Gzq
    exact ⟨a, t1, .ref b, rfl, tup_own hh (.tail _ m1), ⟨b, c1, c2, c3, c4, rfl, tup_own hh (.tail _ m2)⟩⟩
end
end
end Mine

namespace Mine
section

theorem ordF_props : ∀ (last : Int) (rows : List Row), (0 ≤ last ∧ last ≤ 8) → (∀ x ∈ rows, x.ok) → (∀ x ∈ ordF last rows, x.ok ∧ last ≤ x.o ∧ x.o ≤ 8) ∧ (ordF last rows).Pairwise (fun x y => x.o ≤ y.o)
  | _, [], _, _ => ⟨fun _ h => (nomatch h), .nil⟩
  | last, e :: r, h, hr => by
    obtain ⟨i1, i2⟩ := ordF_props (max last (min 8 (max 0 e.o))) r (by k_extra "om") (fun x hx => hr x (.tail _ hx))
    simp only [ordF]
    refine ⟨fun x hx => ?_, List.pairwise_cons.mpr ⟨fun y hy => (i1 y hy).2.1, i2⟩⟩
    rcases List.mem_cons.mp hx with rfl | hx
    · have := hr e (.head _)
      exact ⟨this, by show last ≤ max last (min 8 (max 0 e.o)); omega, by show max last (min 8 (max 0 e.o)) ≤ 8; omega⟩
    · have := i1 x hx
      exact ⟨this.1, by k_extra "om", this.2.2⟩
/-- what these entries of the ledger, wherever they stand, tell -/
def Known (g : Heap) (L : Addr) (pin : List (Addr × Obj)) (P : Heap → Prop) : Prop := ∀ h m l, Fr g L h m → News g L h l → (∀ q ∈ pin, q ∈ l) → P h
theorem Known.of {w : World} {g : Heap} {L : Addr} {pin bs : List (Addr × Obj)} {P : Heap → Prop} (H : Holds w (pin ++ bs) P) (X : (hd.heap_39 w.params).In g) (hb : ∀ q ∈ bs, g.get? q.1 = some q.2) : Known g L pin P := fun h m l F N hs =>
  H h (X.keeps F.keep) fun q hq => (List.mem_append.mp hq).elim (fun hq => (N q (hs q hq)).1) (fun hq => F.keep _ _ (hb q hq))
theorem Known.of0 {w : World} {g : Heap} {L : Addr} {pin : List (Addr × Obj)} {P : Heap → Prop} (H : Holds w pin P) (X : (hd.heap_39 w.params).In g) : Known g L pin P := fun h m l F N hs =>
  H h (X.keeps F.keep) fun q hq => (N q (hs q hq)).1
theorem Known.ofF {w : World} {g h : Heap} {L : Addr} {m : Str → Option Value} {pin : List (Addr × Obj)} {P : Heap → Prop} (F : Fr g L h m) (X : (hd.heap_39 w.params).In g) (H : Holds w pin P) : Known g L pin P := Known.of0 H X
theorem Known.ofFb {w : World} {g h : Heap} {L : Addr} {m : Str → Option Value} {pin bs : List (Addr × Obj)} {P : Heap → Prop} (F : Fr g L h m) (X : (hd.heap_39 w.params).In g) (hb : ∀ q ∈ bs, g.get? q.1 = some q.2) (H : Holds w (pin ++ bs) P) : Known g L pin P := Known.of H X hb
theorem Known.more {g : Heap} {L : Addr} {pin pin' : List (Addr × Obj)} {P : Heap → Prop} (K : Known g L pin P) (hs : ∀ q ∈ pin, q ∈ pin') : Known g L pin' P := fun h m l F N k => K h m l F N fun q hq => k q (hs q hq)
theorem fresh_led {g h : Heap} {L : Addr} {l own : List (Addr × Obj)} (N : News g L h l) (G : ∀ q ∈ own, h.get? q.1 = none) : ∀ p ∈ l, ∀ q ∈ own, q.1 ≠ p.1 := fun p hp q hq e => by
  have := G q hq
  rw [e, (N p hp).1] at this
  cases this
section
variable {g h : Heap} {L : Addr} {pin l : List (Addr × Obj)} {m : Str → Option Value}
theorem known_lin {v vs vp vm : Value} {k : Kd} {A B : Int} (K : Known g L pin (fun h => LinAt h v vs vp vm k A B)) (F : Fr g L h m) (N : News g L h l) (hs : ∀ q ∈ pin, q ∈ l) : LinAt h v vs vp vm k A B := K _ _ _ F N hs
theorem known_rad {v vs vr vm : Value} {k : Kd} {R A B X Y : Int} (K : Known g L pin (fun h => RadAt h v vs vr vm k R A B X Y)) (F : Fr g L h m) (N : News g L h l) (hs : ∀ q ∈ pin, q ∈ l) : RadAt h v vs vr vm k R A B X Y := K _ _ _ F N hs
theorem known_pt {v : Value} {A B C D : Int} (K : Known g L pin (fun h => PtAt h v A B C D)) (F : Fr g L h m) (N : News g L h l) (hs : ∀ q ∈ pin, q ∈ l) : PtAt h v A B C D := K _ _ _ F N hs
theorem known_frac {v : Value} {A B : Int} (K : Known g L pin (fun h => FracAt h v A B)) (F : Fr g L h m) (N : News g L h l) (hs : ∀ q ∈ pin, q ∈ l) : FracAt h v A B := K _ _ _ F N hs
theorem known_mat {v : Value} (K : Known g L pin (fun h => MatAt h v)) (F : Fr g L h m) (N : News g L h l) (hs : ∀ q ∈ pin, q ∈ l) : MatAt h v := K _ _ _ F N hs
theorem known_stops {v : Value} {rows : List Row} (K : Known g L pin (fun h => StopsAt h v rows)) (F : Fr g L h m) (N : News g L h l) (hs : ∀ q ∈ pin, q ∈ l) : StopsAt h v rows := K _ _ _ F N hs
end
section
variable {prog : Program} {w : World} {A : Around} {E : Value → Shared → Prop} {s : Shared} {Q : Value → Shared → Prop} {h₀ : Heap} {L : Addr} {l : List (Addr × Obj)}
theorem ne_fr {a b : Addr} {A1 B1 : Int} {t1 t2 u1 u2 : Tok} (N : News h₀ L s.heap l) (ha : (a, frO A1 B1 t1 t2) ∈ l) (hb : (b, frO A1 B1 u1 u2) ∈ l) (hu : A.units + 64 < cLine) (h : Q (.bool false) s) : wpAny (model prog w) A (compareOp .NotEq (.ref a) (.ref b)) Q E s :=
  ne_tup (News.isTup N ha) (News.isTup N hb) (.cons _ _ (.cons _ _ .nil)) (.cons _ _ (.cons _ _ .nil)) hu (by simpa using h)
theorem eq_fr {a b : Addr} {A1 B1 : Int} {t1 t2 u1 u2 : Tok} (N : News h₀ L s.heap l) (ha : (a, frO A1 B1 t1 t2) ∈ l) (hb : (b, frO A1 B1 u1 u2) ∈ l) (hu : A.units + 64 < cLine) (h : Q (.bool true) s) : wpAny (model prog w) A (compareOp .Eq (.ref a) (.ref b)) Q E s :=
  eq_tup (News.isTup N ha) (News.isTup N hb) (.cons _ _ (.cons _ _ .nil)) (.cons _ _ (.cons _ _ .nil)) hu (by simpa using h)
theorem ne_four {a b : Addr} {r1 r2 r3 r4 : Int} {t1 t2 t3 t4 u1 u2 u3 u4 : Tok} (N : News h₀ L s.heap l) (ha : (a, fourO r1 r2 r3 r4 t1 t2 t3 t4) ∈ l) (hb : (b, fourO r1 r2 r3 r4 u1 u2 u3 u4) ∈ l) (hu : A.units + 64 < cLine) (h : Q (.bool false) s) : wpAny (model prog w) A (compareOp .NotEq (.ref a) (.ref b)) Q E s :=
  ne_tup (News.isTup N ha) (News.isTup N hb) (.cons _ _ (.cons _ _ (.cons _ _ (.cons _ _ .nil)))) (.cons _ _ (.cons _ _ (.cons _ _ (.cons _ _ .nil)))) hu (by simpa using h)
theorem eq_four {a b : Addr} {r1 r2 r3 r4 : Int} {t1 t2 t3 t4 u1 u2 u3 u4 : Tok} (N : News h₀ L s.heap l) (ha : (a, fourO r1 r2 r3 r4 t1 t2 t3 t4) ∈ l) (hb : (b, fourO r1 r2 r3 r4 u1 u2 u3 u4) ∈ l) (hu : A.units + 64 < cLine) (h : Q (.bool true) s) : wpAny (model prog w) A (compareOp .Eq (.ref a) (.ref b)) Q E s :=
  eq_tup (News.isTup N ha) (News.isTup N hb) (.cons _ _ (.cons _ _ (.cons _ _ (.cons _ _ .nil)))) (.cons _ _ (.cons _ _ (.cons _ _ (.cons _ _ .nil)))) hu (by simpa using h)
end
section
variable {prog : Program} {w : World} {A : Around} {E : Value → Shared → Prop} {s : Shared} {h₀ : Heap} {L : Addr} {m : Str → Option Value} {K : Frag} {C f : Addr} {name : Str} {pl : Sem Bool} {Q : Value × List Value → Shared → Prop}
theorem method_obj {v : Value} {fs : List (Str × Value)} {no : List Str} (F : Fr h₀ L s.heap m) (X : K.In h₀) (O : ObjAt s.heap v C fs no) (hn : ∀ es, NoIn es no → getL name es = some none) (hg : plainGet K C name = true) (hf : findIn K (.ref C) name = some (some (.ref f))) (ht : isFn K (.ref f) = true)
    (h : Q (.ref f, [v]) s) : wpAny (model prog w) A (getMethod v name pl) Q E s := by
  obtain ⟨x, dx, es, n, rfl, I, _, no'⟩ := O
  exact method_inst F X I hg hf ht (hn _ no') h
theorem method_lin {v vs vp vm : Value} {k : Kd} {A1 B1 : Int} (O : LinAt s.heap v vs vp vm k A1 B1) (F : Fr h₀ L s.heap m) (X : K.In h₀) (hn : ∀ es, NoIn es [Str.ofString "share_at", Str.ofString "colour_at"] → getL name es = some none) (hg : plainGet K 342 name = true) (hf : findIn K (.ref 342) name = some (some (.ref f))) (ht : isFn K (.ref f) = true)
    (h : Q (.ref f, [v]) s) : wpAny (model prog w) A (getMethod v name pl) Q E s := let ⟨_, _, _, o, _, _⟩ := O; method_obj F X o hn hg hf ht h
theorem method_rad {v vs vr vm : Value} {k : Kd} {R1 A1 B1 X1 Y1 : Int} (O : RadAt s.heap v vs vr vm k R1 A1 B1 X1 Y1) (F : Fr h₀ L s.heap m) (X : K.In h₀) (hn : ∀ es, NoIn es [Str.ofString "share_at", Str.ofString "colour_at"] → getL name es = some none) (hg : plainGet K 392 name = true) (hf : findIn K (.ref 392) name = some (some (.ref f))) (ht : isFn K (.ref f) = true)
    (h : Q (.ref f, [v]) s) : wpAny (model prog w) A (getMethod v name pl) Q E s := let ⟨_, _, _, _, o, _, _, _⟩ := O; method_obj F X o hn hg hf ht h
theorem method_stops {v : Value} {rows : List Row} (O : StopsAt s.heap v rows) (F : Fr h₀ L s.heap m) (X : K.In h₀) (hn : ∀ es, NoIn es [Str.ofString "last_colour", Str.ofString "colour", Str.ofString "mixed"] → getL name es = some none) (hg : plainGet K 293 name = true) (hf : findIn K (.ref 293) name = some (some (.ref f))) (ht : isFn K (.ref f) = true)
    (h : Q (.ref f, [v]) s) : wpAny (model prog w) A (getMethod v name pl) Q E s := let ⟨_, _, o, _, _⟩ := O; method_obj F X o hn hg hf ht h
end
end
end Mine

namespace Mine
section
open Builtin Builtin.ObjectAttr
/-- an exception as it is made -/
abbrev excO (C t : Addr) : Obj := { cls := .ref C, data := .fields #[.ref t, .none, .none, .none, .bool false, .none] }
abbrev excO' (C t dx : Addr) : Obj := { cls := .ref C, dict := some dx, data := .fields #[.ref t, .none, .none, .none, .bool false, .none] }
def excMro : List Value := [.type "Exception", .type "BaseException", .type "object"]
/-- a class whose line leads by one own class to Exception -/
def excLine (K : Frag) (C B : Addr) : Bool := (clsIn K C).any fun cd => cd.mro == .ref C :: .ref B :: excMro && cd.hasDict
section
variable {prog : Program} {w : World} {A : Around} {E : Value → Shared → Prop} {K : Frag} {h : Heap} {g : Array GenState} {d : Drawn} {t : Nat} {os : OsState} {C B e t₀ : Addr}
theorem exc_mro {M : Model} (X : K.In h) (hl : excLine K C B = true) : Looks M h (mroOf (.ref C)) (.ref C :: .ref B :: excMro) := by
  obtain ⟨cd, hc, hl⟩ := any_some hl
  simp only [Bool.and_eq_true, beq_iff_eq] at hl
  rw [← hl.1]
  exact (looks_clsIn X hc).andThen .now
theorem exc_sub {M : Model} (X : K.In h) (hl : excLine K C B = true) (base : Value) : Looks M h (isSubtype (.ref C) base) ((.ref C :: .ref B :: excMro).contains base) := by
  obtain ⟨cd, hc, hl⟩ := any_some hl
  simp only [Bool.and_eq_true, beq_iff_eq] at hl
  refine looks_mroIn X ?_
  unfold mroIn
  rw [hc, Option.bind_some, if_neg (by rw [hl.1]; exact Bool.false_ne_true), hl.1]
theorem exc_store {tk : Tok} {name : Str} {v : Value} {R : Result → Shared → Prop} (X : K.In h) (hl : excLine K C B = true) (he : h.get? e = some (excO C t₀)) (ht : takerIn K C name = some none)
    (hq : ∀ h' tk' dx, (∀ b o, b ≠ e → h.get? b = some o → h'.get? b = some o) → h'.get? e = some (excO' C t₀ dx) → R (.ok (.ret .none)) ⟨h', g, d, tk', os⟩) :
    codeAny (model prog w) A (.call (.builtin "object.__setattr__") ⟨[.ref e, .str name tk, v], []⟩) R ⟨h, g, d, t, os⟩ := by
  have SF := PySem.F.store_Exception
  have ty : Looks (model prog w) h (typeOf (.ref e)) (.ref C) := (Looks.ld he).andThen .now
  have sub : Looks (model prog w) h (isInstance (.ref e) (.type "object")) true := ty.andThen (exc_sub X hl _)
  refine codeAny_call_builtin SF.slot.plain SF.entry (@check_slot (model prog w) _ _ ⟨h, g, d, t, os⟩ "object.__setattr__" "object" "__setattr__" (.ref e) [.str name tk, v] [] _ SF.kind SF.split sub (SF.args (.ref e) (.str name tk) v) ?_)
  obtain ⟨attr, ha, hr⟩ := Option.bind_eq_some_iff.mp ht
  have hm : Looks (model prog w) h (mroOf (.ref C)) _ := exc_mro X hl
  have L3 : Looks (model prog w) h (storeTaker? attr) none := by
    cases attr with
    | none => exact .now
    | some a =>
      obtain ⟨b, hb, hb2⟩ := Option.map_eq_some_iff.mp hr
      refine (looks_takesIn X hb).andThen ?_
      cases b
      · exact .now
      · cases hb2
  rw [osa_eq, refuse_eq]
  refine wpAny_bind (wpAny_bind (ty.here (wpAny_bind (hm.here ?_))))
  rw [refuseLoop_ref, refuseLoop_ref]
  rw [show excMro = [.type "Exception", .type "BaseException", .type "object"] from rfl, SF.passes]
  refine wpAny_pure (wpAny_bind (ty.here (wpAny_bind ((looks_findIn X ha).here (wpAny_bind (L3.here ?_))))))
  obtain ⟨cd, hc, hl⟩ := any_some hl
  simp only [Bool.and_eq_true, beq_iff_eq] at hl
  refine wpAny_bind (wpAny_pure (wpAny_bind (wpAny_bind (wpAny_loadPart he (wpAny_bind ((looks_clsIn X hc).here ?_))))))
  rw [hl.2]
  have hx₁ : (h.push { cls := .type "dict", data := .dict #[] }).get? e = some (excO C t₀) := Heap.get?_push_of_some _ he
  have hxs : e ≠ h.objs.size := Nat.ne_of_lt (Heap.lt_size he)
  show wpAny _ _ (do
    let d ← alloc { cls := Value.type "dict", data := Data.dict #[] }
    update e fun o => { cls := o.cls, dict := some d, data := o.data, slots := o.slots }
    dictMade (excO C t₀).cls e d) _ _ _
  refine wpAny_bind (wpAny_alloc' (wpAny_bind (wpAny_update' hx₁ ?_)))
  refine wpAny_pure ?_
  have hgd : ((h.push { cls := .type "dict", data := .dict #[] }).update e fun o => { cls := o.cls, dict := some h.objs.size, data := o.data, slots := o.slots }).get? h.objs.size
      = some { cls := .type "dict", data := .dict #[] } :=
    (Heap.get?_update_ne _ _ _ _ hxs.symm).trans (Heap.get?_push_at rfl rfl)
  have hnd : ((h.push { cls := .type "dict", data := .dict #[] }).update e fun o => { cls := o.cls, dict := some h.objs.size, data := o.data, slots := o.slots }).Ns h.objs.size (fun _ => none) :=
    ⟨_, #[], _, hgd, rfl, fun e he => absurd he (by simp), fun _ => rfl⟩
  show wpAny _ _ (storeInDict h.objs.size (.str name tk) name v) _ _ _
  unfold storeInDict newKeyGuard
  refine wpAny_bind (wpAny_pure (wpAny_bind (wpAny_nsSet1 (Heap.Ns1.of_empty hnd) fun h' hn' hs => ?_)))
  obtain ⟨oD, esD, epD, hoD, hdD, hcD⟩ := hn'.count (Within.cons name v Within.nil)
  refine wpAny_bind (wpAny_lookBehind hoD (by rw [hdD]; exact pastItsLine_dict (Nat.le_trans hcD (by rw [List.length_cons, List.length_nil, sizeLine_eq]; omega))) ?_)
  wp_walk
  refine hq h' _ h.objs.size (fun b ob hbx hb => ?_) ?_
  · exact (hs.2 b (Nat.ne_of_lt (Heap.lt_size hb))).trans ((Heap.get?_update_ne _ _ _ _ hbx).trans (Heap.get?_push_of_some _ hb))
  · exact (hs.2 e hxs).trans (Heap.get?_update_self _ hx₁ rfl)
theorem exc_setattr {name : Str} {v : Value} {Q : Unit → Shared → Prop} (X : K.In h) (hl : excLine K C B = true) (he : h.get? e = some (excO C t₀)) (ht : takerIn K C name = some none) (hs : findIn K (.ref C) "__setattr__" = some (some (.builtin "object.__setattr__")))
    (hq : ∀ h' tk' dx, (∀ b o, b ≠ e → h.get? b = some o → h'.get? b = some o) → h'.get? e = some (excO' C t₀ dx) → Q () ⟨h', g, d, tk', os⟩) :
    wpAny (model prog w) A (setAttr (.ref e) name v) Q E ⟨h, g, d, t, os⟩ :=
  set_plain (s := ⟨h, g, d, t, os⟩) (od := none) X ⟨he, rfl, rfl, trivial⟩ hs (exc_store X hl he ht fun h' tk' dx k1 k2 => hq h' tk' dx k1 k2)
/-- the class called: the exception made, then its __init__ -/
theorem exc_new {rest : List Value} {R : Result → Shared → Prop} (hC : ∃ nm q N bs hdct sn sub ab col dd k0 k1 k2 k3 k5, h.get? C = some (excClassObj nm q C N bs (.ref B :: excMro) hdct sn sub ab col dd k0 k1 k2 k3 k5 "Exception.__new__"))
    (hq : R (.ok (.ret (.ref (h.objs.size + 1)))) ⟨(h.push { cls := .type "tuple", data := .seq rest.toArray }).push (excO C h.objs.size), g, d, t, os⟩) (hrest : rest.length ≤ sizeLine) :
    codeAny (model prog w) A (.call (.builtin "Exception.__new__") ⟨.ref C :: rest, []⟩) R ⟨h, g, d, t, os⟩ := by
  obtain ⟨nm, q, N, bs, hdct, sn, sub, ab, col, dd, k0, k1, k2, k3, k5, hC⟩ := hC
  have F := PySem.F.excBase_Exception
  have hends := F.ends
  have hcB : (Value.ref C :: .ref B :: excMro).contains (.type "Exception") = true := by rw [List.contains_cons, List.contains_cons]; rfl
  have hcA : (Value.ref C :: .ref B :: excMro).contains (.type "AttributeError") = false := by rw [List.contains_cons, List.contains_cons]; rfl
  have hcN : (Value.ref C :: .ref B :: excMro).contains (.type "NameError") = false := by rw [List.contains_cons, List.contains_cons]; rfl
  refine codeAny_call_builtin_code (Code.quiet_builtin _ F.quiet) ?_
  have hstar := F.noStar
  simp only [checkBuiltinCall, F.newKind, F.newSplit, F.newRow]
  repeat (first | refine wpAny_loadPart_at hC ?_ | (refine wpAny_isSubtype_exc hC ?_; rw [hcB]) | refine wpAny_staticBase_exc hC ?_ | refine wpAny_madeBy_exc hC ?_ | simp only [bne_self_eq_false, Bool.false_eq_true, if_false] | wp_step)
  refine codeAny_builtinAt F.entry ?_
  unfold Builtin.«BaseException.__new__»
  refine PySem.wpAt_bind ?_
  show PySem.wpAt _ _ _ (stack >>= _) _ _ _
  refine PySem.wpAt_bind (PySem.wpAt_stack fun p below => PySem.wpAt_of_wpAny ?_)
  wp_walk
  refine PySem.wpAt_of_wpAny ?_
  rw [F.owner]
  repeat (first | with_reducible refine wpAny_madeHere_exc F.canon hC ?_ | with_reducible refine wpAny_loadPart_at hC ?_ | (with_reducible refine wpAny_isSubtype_exc hC ?_; first | rw [hcB] | rw [hcA] | rw [hcN]) | wp_step)
  show R _ _
  rw [Heap.size_push]
  exact hq
end
def excObjIn (K : Frag) (C B : Addr) : Bool := match K.lookup C with
  | some ⟨.type "type", _, .cls cd, sl⟩ => cd.mro == .ref C :: .ref B :: excMro && !cd.hasDel && (match sl.toList with | [_, _, _, _, some (.builtin n), _] => n == "Exception.__new__" | _ => false)
  | _ => false
theorem exc_obj {K : Frag} {h : Heap} {C B : Addr} (X : K.In h) (q : excObjIn K C B = true) : ∃ nm q N bs hdct sn sub ab col dd k0 k1 k2 k3 k5, h.get? C = some (excClassObj nm q C N bs (.ref B :: excMro) hdct sn sub ab col dd k0 k1 k2 k3 k5 "Exception.__new__") := by
  unfold excObjIn at q
  split at q
  · rename_i dd cd sl ho
    simp only [Bool.and_eq_true, beq_iff_eq, Bool.not_eq_true'] at q
    obtain ⟨⟨hm, hdel⟩, q⟩ := q
    split at q
    · rename_i k0 k1 k2 k3 n k5 hs
      obtain ⟨nm, bs, mro, ns, qn, hd, sn, sub, ab, col, del⟩ := cd
      dsimp only at hm hdel
      subst hm hdel
      have hn := beq_iff_eq.mp q
      subst hn
      have hsl : sl = #[k0, k1, k2, k3, some (.builtin "Exception.__new__"), k5] := by
        obtain ⟨l⟩ := sl
        simp only at hs
        rw [hs]
      subst hsl
      exact ⟨nm, qn, ns, bs, hd, sn, sub, ab, col, dd, k0, k1, k2, k3, k5, X _ _ ho⟩
    · cases q
  · cases q
section
variable {prog : Program} {w : World} {A : Around} {E : Value → Shared → Prop} {K : Frag} {h : Heap} {g : Array GenState} {d : Drawn} {t : Nat} {os : OsState} {C B e t₀ : Addr}
theorem exc_type_call {rest : List Value} {f : Addr} {Q : Fin → Shared → Prop} (X : K.In h) (hl : excLine K C B = true) (ho : excObjIn K C B = true) (hi : findIn K (.ref C) "__init__" = some (some (.ref f))) (hf : typeIn K (.ref f) = some (.type "function"))
    (hq : wpAny (model prog w) A (call (.ref f) (.ref (h.objs.size + 1) :: rest)) (fun r s' => r = .none ∧ Q (.done (.ret (.ref (h.objs.size + 1)))) s') E ⟨(h.push { cls := .type "tuple", data := .seq rest.toArray }).push (excO C h.objs.size), g, d, t, os⟩) (hrest : rest.length ≤ sizeLine) :
    wpAny (model prog w) A (Builtin.«type.__call__» ⟨.ref C :: rest, []⟩) Q E ⟨h, g, d, t, os⟩ := by
  have hCC := exc_obj X ho
  obtain ⟨nm, q, N, bs, hdct, sn, sub, ab, col, dd, k0, k1, k2, k3, k5, hC⟩ := id hCC
  repeat (first | with_reducible refine wpAny_loadPart_at hC ?_ | with_reducible refine wpAny_madeBy_exc hC ?_ | wp_step)
  refine exc_new hCC ?_ hrest
  show wpAny _ _ _ _ _ _
  have k1' : ∀ b o, h.get? b = some o → ((h.push { cls := .type "tuple", data := .seq rest.toArray }).push (excO C h.objs.size)).get? b = some o := fun b o e => Heap.get?_push_of_some _ (Heap.get?_push_of_some _ e)
  have X₁ : K.In ((h.push { cls := .type "tuple", data := .seq rest.toArray }).push (excO C h.objs.size)) := X.keeps k1'
  have hget : ((h.push { cls := .type "tuple", data := .seq rest.toArray }).push (excO C h.objs.size)).get? (h.objs.size + 1) = some (excO C h.objs.size) := by heap_get
  have hC₁ := k1' _ _ hC
  have hcC : (Value.ref C :: .ref B :: excMro).contains (.ref C) = true := by simp
  unfold isInstance
  repeat (first | with_reducible refine wpAny_loadPart_at hget ?_ | (with_reducible refine wpAny_isSubtype_exc hC₁ ?_; rw [hcC]) | wp_step)
  show wpAny _ _ (typeLookup (.ref C) _) _ _ _
  refine (looks_findIn X₁ hi).here ?_
  refine wpAny_holding (wpAny_bind ((bind_fn X₁ _ hf).here ?_))
  refine wpAny_bind (wpAny_mono hq (fun r s' hr => ?_) fun _ _ x => x)
  obtain ⟨rfl, hQ⟩ := hr
  wp_walk
  exact hQ
theorem exc_call {rest : List Value} {f : Addr} {Q : Value → Shared → Prop} (X : K.In h) (hl : excLine K C B = true) (ho : excObjIn K C B = true) (hi : findIn K (.ref C) "__init__" = some (some (.ref f))) (hf : typeIn K (.ref f) = some (.type "function"))
    (hq : wpAny (model prog w) (A.under (.builtin "type.__call__" ⟨.ref C :: rest, []⟩)) (call (.ref f) (.ref (h.objs.size + 1) :: rest)) (fun r s' => r = .none ∧ Q (.ref (h.objs.size + 1)) s') E ⟨(h.push { cls := .type "tuple", data := .seq rest.toArray }).push (excO C h.objs.size), g, d, t, os⟩) (hrest : rest.length ≤ sizeLine) :
    wpAny (model prog w) A (call (.ref C) rest) Q E ⟨h, g, d, t, os⟩ := by
  obtain ⟨nm, q, N, bs, hdct, sn, sub, ab, col, dd, k0, k1, k2, k3, k5, hC⟩ := exc_obj X ho
  have f1 := tc_lookup
  have f2 := tc_bind (.ref C)
  have hT : (⟨h, g, d, t, os⟩ : Shared).TypeIs (.ref C) "type" := ⟨_, hC, rfl⟩
  refine wpAny_call (codeAny_of_tree ?_)
  show wpAny _ _ (callAny (.ref C) _) _ _ _
  repeat (any_goals (first | assumption | with_reducible refine wpAny_loadPart_at hC ?_ | wp_step))
  refine ⟨rfl, ?_⟩
  exact codeAny_call_builtin_at (Code.quiet_builtin _ (by decide +kernel)) entry_typeCall (wpAny_check_type_call_sub hC (exc_type_call X hl ho hi hf hq hrest))
end
end
end Mine

namespace Mine
section

section
variable {prog : Program} {w : World} {A : Around} {K : Frag} {p : Program} {loose : List Str} {mean : ExcName → Option Value} {mg mb : Str → Option Value} {E : Value → Shared → Prop} {s : Shared} {h₀ : Heap} {L C B e t₀ : Addr} {m : Str → Option Value} {news : List (Addr × Obj)}
theorem exc_set_led {name : Str} {v : Value} {Q : Unit → Shared → Prop} (F : Fr h₀ L s.heap m) (N : News h₀ L s.heap [(e, excO C t₀)]) (X : K.In h₀) (hl : excLine K C B = true) (ht : takerIn K C name = some none) (hs : findIn K (.ref C) "__setattr__" = some (some (.builtin "object.__setattr__")))
    (k : ∀ h' tk' dx, Fr h₀ L h' m → News h₀ L h' [(e, excO' C t₀ dx)] → Q () { s with heap := h', toks := tk' }) : wpAny (model prog w) A (setAttr (.ref e) name v) Q E s := by
  obtain ⟨hh, gs, dr, tk, os⟩ := s
  obtain ⟨n1, n2, n3⟩ := N _ (.head _)
  refine exc_setattr (X.keeps F.keep) hl n1 ht hs fun h' tk' dx k1 k2 => k h' tk' dx ⟨F.ns.at' fun o e' => k1 L o (fun q => n2 q.symm) e', fun b o e' => k1 b o (fun q => ?_) (F.keep b o e'), F.above⟩ fun q hq => ?_
  · rw [q, n3] at e'; cases e'
  · rw [List.mem_singleton.mp hq]; exact ⟨k2, n2, n3⟩
theorem raise_stmt {M : Model} {env : Env} {x : Sem Value} {Q : Flow → Shared → Prop} (ho : excObjIn K C B = true) (hh : A.handled = none)
    (h : wpAny M A x (fun v s₁ => ∃ e t dx, v = .ref e ∧ K.In s₁.heap ∧ s₁.heap.get? e = some (excO' C t dx) ∧ E (.ref e) s₁) E s) : wpAny M A (raiseStmt env (some x) none) Q E s := by
  have hcB : (Value.ref C :: .ref B :: excMro).contains (.type "BaseException") = true := by rw [List.contains_cons, List.contains_cons]; rfl
  unfold raiseStmt
  refine wpAny_bind (wpAny_mono h (fun v s₁ h₁ => ?_) fun _ _ x => x)
  obtain ⟨e, t₁, dx, rfl, X, he, hE⟩ := h₁
  obtain ⟨nm, q, N, bs, hdct, sn, sub, ab, col, dd, k0, k1, k2, k3, k5, hC⟩ := exc_obj X ho
  obtain ⟨hp, g, d, tk, os⟩ := s₁
  repeat (first | with_reducible refine wpAny_loadPart_at he ?_ | with_reducible refine wpAny_loadPart_at hC ?_ | (with_reducible refine wpAny_isSubtype_exc hC ?_; rw [hcB]) | wp_step)
  exact wpAny_raiseNew_none hh hE
theorem Raise_sheet {name : Str} {scope : Scope} {a : Addr} {cd : Value} {x : Str} {np cpos pos : Pos} {e₀ : Expr} {rest : List Expr} {Q : Flow → Shared → Prop} (F : Fr h₀ L s.heap m) (X : K.In h₀) (T : TopRead p loose mg mb h₀) (ex : nsIn K mainGlobals x = some (some (.ref C))) (ho : excObjIn K C B = true) (hh : A.handled = none)
    (h : wpAny (model prog w) A (spliced (backTo cpos (starEach (e₀ :: rest) (envOf name scope L a cd)))) (fun vs s₂ => K.In s₂.heap ∧ wpAny (model prog w) A (call (.ref C) vs) (fun v s₃ => ∃ e t dx, v = .ref e ∧ K.In s₃.heap ∧ s₃.heap.get? e = some (excO' C t dx) ∧ E (.ref e) s₃) E s₂) E s)
    (he : starEach (e₀ :: rest) (envOf name scope L a cd) = (false, eval e₀ (envOf name scope L a cd)) :: starEach rest (envOf name scope L a cd) := by rfl)
    (hplain : (backTo cpos (starEach rest (envOf name scope L a cd))).any (·.1) = false := by rfl)
    (hk : scope.kind = .function := by rfl) (hx : (envOf name scope L a cd).kindOf x = some .globalImplicit := by rfl) (hd : (x == ("__debug__" : Str)) = false := by decide) :
    wpAny (model prog w) A (exec (.Raise (some (.Call (.Name x np) (e₀ :: rest) [] cpos)) none pos) (envOf name scope L a cd)) Q E s := by
  have hpl : (backTo cpos (starEach (e₀ :: rest) (envOf name scope L a cd))).any (·.1) = false := by rw [he]; show (false || (backTo cpos (starEach rest (envOf name scope L a cd))).any (·.1)) = false; rw [hplain]; rfl
  rw [arm_exec_Raise]
  have key : wpAny (model prog w) A (eval (.Call (.Name x np) (e₀ :: rest) [] cpos) (envOf name scope L a cd)) (fun v s₃ => ∃ e t dx, v = .ref e ∧ K.In s₃.heap ∧ s₃.heap.get? e = some (excO' C t dx) ∧ E (.ref e) s₃) E s := by
    refine wpAny_Call_ofName (name_K F X T ex ?_ hk hx hd)
    unfold callWith
    refine wpAny_bind (wpAny_holding ?_)
    rw [he] at h ⊢
    refine Calls.evalArgs_plain (wpAny_mono h (fun vs s₂ h₂ => wpAny_bind (wpAny_standAt ?_)) fun _ _ y => y)
    obtain ⟨X₂, h₂⟩ := h₂
    obtain ⟨nm, q, N, bs, hdct, sn, sub, ab, col, dd, k0, k1, k2, k3, k5, hC⟩ := exc_obj X₂ ho
    obtain ⟨hp, g, d, tk, os⟩ := s₂
    rw [he] at hpl
    simp only [hpl]
    refine wpAny_bind (wpAny_keeperOf_exc hC ?_)
    exact wpAny_bind (wpAny_mono h₂ (fun v s₃ h₃ => wpAny_bind (wpAny_holding (wpAny_point (wpAny_pure h₃)))) fun _ _ y => y)
  first
    | exact wpAny_bind (wpAny_standAt (raise_stmt ho hh key))
    | (simp only [evalOpt, Option.map]; exact wpAny_bind (wpAny_standAt (raise_stmt ho hh (wpAny_bind (wpAny_mono key (fun v s₃ h₃ => wpAny_bind (wpAny_standAt (wpAny_pure h₃))) fun _ _ y => y)))))
    | exact wpAny_bind (wpAny_standAt (raise_stmt ho hh (wpAny_bind (wpAny_mono key (fun v s₃ h₃ => wpAny_bind (wpAny_standAt (wpAny_pure h₃))) fun _ _ y => y))))
end
section
variable {M : Model} {A : Around} {E : Value → Shared → Prop} {s' : Shared} {base g : Heap} {outer : List Env} {L a e : Addr} {m : Str → Option Value} {name : Str} {scope : Scope} {cd : Value} {Q : Unit → Shared → Prop} {own : List (Addr × Obj)} {oe : Obj} {vs : Array Value} {cls a0 : Value}
theorem leave_exc (K : Below A base outer g) (F : Fr g L s'.heap m) (N : News g L s'.heap ((e, oe) :: own)) (hcls : oe.cls = cls) (hd : oe.data = .fields vs) (h1 : vs[1]? = some .none) (h0 : vs[0]? = some a0)
    (hQ : ∀ h', RaisedSN base g outer e cls [] h' → g.UpToSlots h' → Q () { s' with heap := h' }) (hk : scope.kind = .function) :
    wpAny M (A.deeper (envOf name scope L a cd)) (leaving (envOf name scope L a cd) (.ref e)) Q E s' := by
  have K' := K.push (name := name) (a := a) (cd := cd) F hk
  obtain ⟨n1, n2, n3⟩ := N _ (.head _)
  have hin : ∀ env ∈ (envOf name scope L a cd :: outer), ∀ b, env.frame = some b → b ∈ e :: (envOf name scope L a cd :: outer).filterMap (·.frame) := fun env he b hb => .tail _ (List.mem_filterMap.mpr ⟨env, he, hb⟩)
  have st : base.StaysIn (hideAll s'.heap (e :: (envOf name scope L a cd :: outer).filterMap (·.frame))) := fun b o q => hideAll_get _ (K'.stays b o q) fun hm => by
    rcases List.mem_cons.mp hm with rfl | hm
    · rw [fresh_of_stays K.stays n3] at q; cases q
    · rw [(K'.frames.mem hm).1] at q; cases q
  have sg : ∀ b o, g.get? b = some o → b ∉ outer.filterMap (·.frame) → (hideAll s'.heap (e :: (envOf name scope L a cd :: outer).filterMap (·.frame))).get? b = some o := fun b o q nm => hideAll_get _ (F.keep b o q) fun hm => by
    rcases List.mem_cons.mp hm with rfl | hm
    · rw [n3] at q; cases q
    · rcases kts_mem hm with z | z
      · rw [z, kts_self F] at q; cases q
      · exact nm z
  have hen : (hideAll s'.heap (e :: (envOf name scope L a cd :: outer).filterMap (·.frame))).get? e = none := hideAll_none _ (.head _)
  refine wpAny_leaving_firstW (a0 := a0) K'.stack (funFrames_hide K'.frames hin) rfl n1 (fun b o hb => of_hideAll _ hb) hen hd h1 h0 fun h' hL => ?_
  obtain ⟨k1, ⟨_, _, k2⟩, k3, k4⟩ := hL
  exact hQ h' ⟨_, a0, st, sg, (fun _ hq => nomatch hq), k1, hen, k2, by rw [← hcls]; exact k3⟩ ((Heap.UpToSlots.of_keeps F.keep).trans k4)
end
end
end Mine

namespace Mine
section
theorem rl_Exc3_1 : True := by
  k_with "SR" => (repeat' ((fail_if_success (with_reducible show wpAny _ _ (exec (Stmt.Raise _ _ _) _) _ _ _)); (fail_if_success (with_reducible show wpAny _ _ (exec (Stmt.While _ _ _ _) _) _ _ _)); (fail_if_success (with_reducible show wpAny _ _ (exec (Stmt.For _ _ _ _ _) _) _ _ _)); (fail_if_success (with_reducible show wpAny _ _ (eval (Expr.ListComp _ _ _ _) _) _ _ _)); (fail_if_success (with_reducible show wpAny _ _ (exec (Stmt.Assign _ (Expr.ListComp _ _ _ _) _) _) _ _ _)); (fail_if_success (with_reducible show wpAny _ _ (call (Value.builtin "list.append") _) _ _ _)); (fail_if_success (with_reducible show RetM _ _ _ _ _ _ _ _ _)); (fail_if_success (with_reducible show wpAny _ _ (pyIter _) _ _ _)); first | (k_unfold; (try dsimp only)) | (k_end; wrow_close) | walk1 | (dsimp only; walk1) | fail "no step"))
  k_with "eval Name" => (k_here; k_dflt (refine' nameX_L ?Fzq ?vzq ?_ ?azq ?bzq; (case Fzq => k_asm); (case azq => rfl); (case bzq => rfl); (case vzq => first | rfl | assumption); k_whole))
  trivial
/-- how an exception leaves a frame: made there, or come through -/
def ExcM (base g : Heap) (L' : Addr) (env : Env) (outer : List Env) (E : Value → Shared → Prop) (ev : Value) (s' : Shared) : Prop :=
  (∃ e oe vs a0 m' own, ev = .ref e ∧ Fr g L' s'.heap m' ∧ News g L' s'.heap ((e, oe) :: own) ∧ oe.cls = .ref 89 ∧ oe.data = .fields vs ∧ vs[1]? = some .none ∧ vs[0]? = some a0 ∧
    ∀ h', RaisedSN base g outer e (.ref 89) [] h' → g.UpToSlots h' → E (.ref e) { s' with heap := h' }) ∨
  (∃ e g₂ m', ev = .ref e ∧ Fr g L' g₂ m' ∧ RaisedSN base g₂ (env :: outer) e (.ref 89) [] s'.heap ∧ g₂.UpToSlots s'.heap ∧
    ∀ h', RaisedSN base g outer e (.ref 89) [] h' → g.UpToSlots h' → E (.ref e) { s' with heap := h' })
theorem excM_leave {M : Model} {A : Around} {base g : Heap} {outer : List Env} {L a : Addr} {name : Str} {scope : Scope} {cd : Value} {E E' : Value → Shared → Prop} {ev : Value} {s' : Shared} (K : Below A base outer g) (hk : scope.kind = .function) (x : ExcM base g L (envOf name scope L a cd) outer E ev s') :
    wpAny M (A.deeper (envOf name scope L a cd)) (leaving (envOf name scope L a cd) ev) (fun _ s'' => E ev s'') E' s' := by
  rcases x with ⟨e, oe, vs, a0, m', own, rfl, F, N, h1, h2, h3, h4, k⟩ | ⟨e, g₂, m', rfl, F, R, hsm, k⟩
  · exact leave_exc K F N h1 h2 h3 h4 (fun h' r u => k h' r u) hk
  · exact leave_onSN K F R hsm (fun h' r _ u => k h' r u)
section
variable {prog : Program} {w : World} {K : Frag} {p : Program} {loose : List Str} {mean : ExcName → Option Value} {mg mb : Str → Option Value}
  {dp un : Nat} {gd : Option (List Code)} {cn : Str} {cs : Scope} {a : Addr} {ccd : Value} {cl : List (Str × Addr)} {outer : List Env} {A₀ : Around} {base h₀ : Heap} {L : Addr}
  {m : Str → Option Value} {news : List (Addr × Obj)} {s : Shared} {Q E : Value → Shared → Prop}
  {name qual : Str} {params : Arguments} {body : List Stmt} {scope : Scope} {dV kV doc pm cdv ct oc : Value} {an od : Option Addr} {osl : Array (Option Value)} {f C : Addr} {vs : List Value}
/-- a def entered that may raise -/
theorem enterE {binds : List (Str × Value)} (B : Below A₀ base outer h₀) (F : Fr h₀ L s.heap m) (X : K.In h₀) (N : News h₀ L s.heap news) (T : Top p loose mean mg mb h₀)
    (hk : cs.kind = .function) (ho : K.lookup f = some ⟨oc, od, .func (fnOf name qual params body scope dV kV doc pm an cdv ct), osl⟩) (hcd : codeIn K cdv qual = true) (hroom : dp < recursionLimit)
    (hbind : BindsTo s (fnOf name qual params body scope dV kV doc pm an cdv ct) ⟨vs, []⟩ binds) (hloc : ∀ y ∈ binds, scope.names.lookup y.1 = some .local)
    (hco : scope.isCoroutine = false) (hgen : scope.isGenerator = false) (hks : scope.kind = .function) (hcell : ∀ x ∈ scope.names, x.2 ≠ .cell)
    (h : ∀ g L' s₁, Sm s s₁ → GSub s.heap g [] → Fr h₀ L g m → Fr g L' s₁.heap (fun y => binds.reverse.lookup y) → News g L' s₁.heap [] →
      Below (ktrTop dp un gd cn cs L a ccd cl outer) base (envX cn cs L a ccd cl :: outer) g → K.In g → Top p loose mean mg mb g →
      let gA : Around := ktrTop (dp + 1) (un + 3) gd qual scope L' f cdv [] (envX cn cs L a ccd cl :: outer); let gE : Env := envOf qual scope L' f cdv; wpAny (model prog w) gA (execs body gE)
        (fun fl s' => RetM h₀ L m news g L' Q (match fl with | .ret v => v | _ => .none) s') (ExcM base g L' (envOf qual scope L' f cdv) (envX cn cs L a ccd cl :: outer) E) s₁) :
    wpAny (model prog w) (ktrTop dp un gd cn cs L a ccd cl outer) (call (.ref f) vs) Q E s := by
  refine wpAny_call ?_
  refine code_defG B F X (news := []) (fun q hq => nomatch hq) T rfl rfl hk ho hcd hroom hbind hloc ?_ hco hgen hks hcell
  intro g L' h₁ FG F' N' B' X' T' G
  refine wpAny_mono (h g L' _ ⟨rfl, rfl⟩ G FG F' N' B' X' T') (fun fl s' hr => ?_) (fun ev s' x => ?_)
  · obtain ⟨m', own, F2, N2, k⟩ := hr
    exact ⟨L', m', own, F2, N2, fun kF kN => k kF (news_join (mu := []) N (fun _ _ h => nomatch h) G F2 kN)⟩
  · exact excM_leave B' hks x
end
section
variable {prog : Program} {w : World} {p : Program} {loose : List Str} {mean : ExcName → Option Value} {mg mb : Str → Option Value}
  {dp un : Nat} {gd : Option (List Code)} {cn : Str} {cs : Scope} {a : Addr} {ccd : Value} {cl : List (Str × Addr)} {outer : List Env} {A₀ : Around} {base h₀ : Heap} {L : Addr}
  {m : Str → Option Value} {news : List (Addr × Obj)} {s : Shared} {Q E : Value → Shared → Prop}
theorem rl_Exc3_2 : True := by
  k_with "setAttr ref" => (k_here; k_dflt (refine' exc_set_led (K := Mine.hd.heap_39 _) (B := 52) ?Fzq ?Nzq ?Xzq ?lzq ?tzq ?szq ?_; (case Fzq => k_asm); (case Nzq => k_asm); (case Xzq => k_asm); (case lzq => kernel_rfl); (case tzq => k_is); (case szq => k_is)); k_whole; intro _ _ _ _ _)
  trivial
theorem mill_init_spec {e t₀ : Addr} {msg : Value} {rest : List (Addr × Obj)} (zB : Below A₀ base outer h₀) (zF : Fr h₀ L s.heap m) (zX : (hd.heap_39 w.params).In h₀) (zN : News h₀ L s.heap ((e, excO 89 t₀) :: rest)) (zT : Top p loose mean mg mb h₀) (zk : cs.kind = .function) (hd : dp < recursionLimit) (hu : un + 20 < cLine) (hdis : ∀ q ∈ rest, q.1 ≠ e)
    (ret : ∀ dx s', Sm s s' → Fr h₀ L s'.heap m → News h₀ L s'.heap ((e, excO' 89 t₀ dx) :: rest) → Q .none s') :
    wpAny (model prog w) (ktrTop dp un gd cn cs L a ccd cl outer) (call (.ref 49) [.ref e, msg]) Q E s := by
  k_dflt (refine' enterM (mu := [(e, excO 89 t₀)]) (binds := [(Str.ofString "self", .ref e), (Str.ofString "message", msg)]) zB zF zX zN (fun q hq hm => hdis q hq (List.mem_singleton.mp hm)) zT zk ?k6 ?k7 ?k8 ?k9 ?kB ?c2 ?c3 ?c4 ?c5 ?_; (case k6 => k_is); (case k7 => k_is); (case k8 => omega); (case k9 => exact BindsTo.of_eq rfl); (case c5 => decide); (case kB => exact locs rfl); (case c2 => exact rfl); (case c3 => exact rfl); (case c4 => exact rfl); k_whole; intro gg gL gs gS gG gF gN gB gX gT gA gE; (try dsimp only); (try k_fold))
  k_extra "S"
  (all_goals (try dsimp only)); (all_goals (try k_unfold)); (all_goals (try dsimp only))
  exact retM (by assumption) (by assumption) (fun kF kN => ret _ _ (by k_extra "sm") kF kN)
/-- SheetFault(message) -/
theorem sheet_call_spec {msg : Value} (zB : Below A₀ base outer h₀) (zF : Fr h₀ L s.heap m) (zX : (hd.heap_39 w.params).In h₀) (zN : News h₀ L s.heap news) (zT : Top p loose mean mg mb h₀) (zk : cs.kind = .function) (hr : dp + 1 < recursionLimit) (hu : un + 40 < cLine)
    (ret : ∀ e t₀ dx s', Sm s s' → Fr h₀ L s'.heap m → News h₀ L s'.heap ((e, excO' 89 t₀ dx) :: news) → Q (.ref e) s') :
    wpAny (model prog w) (ktrTop dp un gd cn cs L a ccd cl outer) (call (.ref 89) [msg]) Q E s := by
  obtain ⟨hh, gs, dr, tk, os⟩ := s
  refine exc_call (K := Mine.hd.heap_39 w.params) (B := 52) (f := 49) (zX.keeps zF.keep) (by kernel_rfl) (by kernel_rfl) (by k_is) (by k_is) ?_ (by rw [sizeLine_eq, List.length_singleton]; decide)
  rw [under_make]
  have F1 := (zF.push { cls := .type "tuple", data := .seq [msg].toArray }).push (excO 89 hh.objs.size)
  have N1 := (zN.push zF { cls := .type "tuple", data := .seq [msg].toArray }).push (zF.push _) (excO 89 hh.objs.size)
  rw [Heap.size_push] at N1
  refine mill_init_spec (s := ⟨(hh.push { cls := .type "tuple", data := .seq [msg].toArray }).push (excO 89 hh.objs.size), gs, dr, tk, os⟩) zB F1 zX N1 zT zk (by k_extra "om") (by k_extra "om") (fun q hq => ?_) fun dx s' S' F' N' => ⟨rfl, ret _ hh.objs.size dx s' S' F' fun q hq => N' q ?_⟩
  · rcases List.mem_cons.mp hq with rfl | hq
    · exact Nat.ne_of_lt (Nat.lt_succ_self _)
    · exact Nat.ne_of_lt (Nat.lt_succ_of_lt (Heap.lt_size (zN q hq).1))
  · rcases List.mem_cons.mp hq with rfl | hq
    · exact .head _
    · exact .tail _ (.tail _ hq)
end
theorem rl_Exc3_3 : True := by
  k_with "compareOp NotIn str ref" => (k_here; k_dflt (refine notin_none (Frag.In.keeps (by assumption) (Fr.keep (by k_asm))) ?_))
  trivial
section
variable {prog : Program} {w : World} {p : Program} {loose : List Str} {mean : ExcName → Option Value} {mg mb : Str → Option Value}
  {dp un : Nat} {gd : Option (List Code)} {cn : Str} {cs : Scope} {a : Addr} {ccd : Value} {cl : List (Str × Addr)} {outer : List Env} {A₀ : Around} {base h₀ : Heap} {L : Addr}
  {m : Str → Option Value} {news : List (Addr × Obj)} {s : Shared} {Q E : Value → Shared → Prop}
theorem check_none_raise {t : Tok} (zB : Below A₀ base outer h₀) (zF : Fr h₀ L s.heap m) (zX : (hd.heap_39 w.params).In h₀) (zN : News h₀ L s.heap news) (zT : Top p loose mean mg mb h₀) (zk : cs.kind = .function) (hr : dp + 3 < recursionLimit) (hu : un + 60 < cLine)
    (rz : ∀ e g₂ s', Sm s s' → Fr h₀ L g₂ m → RaisedSN base g₂ (envX cn cs L a ccd cl :: outer) e (.ref 89) [] s'.heap → g₂.UpToSlots s'.heap → E (.ref e) s') :
    wpAny (model prog w) (ktrTop dp un gd cn cs L a ccd cl outer) (call (.ref 193) [.str (Str.ofString "none") t]) Q E s := by
  k_dflt (refine' enterE (binds := [(Str.ofString "kind", .str (Str.ofString "none") t)]) zB zF zX zN zT zk ?k6 ?k7 ?k8 ?k9 ?kB ?c2 ?c3 ?c4 ?c5 ?_; (case k6 => k_is); (case k7 => k_is); (case k8 => omega); (case k9 => first | exact BindsTo.of_eq rfl | exact binds_K (Frag.In.keeps zX zF.keep) rfl (by k_is) rfl rfl rfl); (case c5 => decide); (case kB => exact locs rfl); (case c2 => exact rfl); (case c3 => exact rfl); (case c4 => exact rfl); k_whole; intro gg gL gs gS gG gFG gF gN gB gX gT gA gE; (try dsimp only); (try k_fold))
  k_extra "SR"
  refine Raise_sheet (by assumption) gX (topRead_of gT) (C := 89) (B := 52) (by k_is) (by kernel_rfl) rfl ?_
  k_extra "S"
  refine sheet_call_spec gB (by assumption) gX gN gT rfl (by k_extra "om") (by k_extra "om") ?_
  intro e t₀ dx s' S' F' N'
  refine ⟨e, t₀, dx, rfl, gX.keeps F'.keep, (N' _ (.head _)).1, .inl ⟨e, _, _, _, _, _, rfl, F', N', rfl, rfl, rfl, rfl, fun h2 r u => rz _ _ _ (by k_extra "sm") gFG r u⟩⟩
end
end
end Mine

namespace Mine
section
theorem rl_Exc5_1 : True := by
  k_with "eval Name" => (k_here; (fail_if_success (with_reducible show wpAny _ _ (eval (Expr.Name _ _) (compEnvC _ _ _ _)) _ _ _)); k_dflt (first | (refine' nameX_L ?Fzq ?vzq ?_ ?azq ?bzq; (case bzq => exact rfl); (case Fzq => k_asm); (case azq => exact rfl); (case vzq => first | exact rfl | assumption); k_whole) | (refine' nameX_K ?Fzq ?Xzq ?Tzq ?ezq ?_ ?azq ?bzq; (case bzq => exact rfl); (case Fzq => k_asm); (case Xzq => k_asm); (case Tzq => k_asm); (case azq => exact rfl); (case ezq => k_is); k_whole)))
  k_with "setAttr ref" => (k_here; k_dflt (refine' set_b ?k1zq ?k2zq ?k3zq ?k4zq ?k5zq ?k6zq ?k7zq ?k8zq ?k9zq ?k10zq ?k11zq ?k12zq ?k13zq ?_; (case k1zq => k_asm); (case k2zq => k_asm); (case k3zq => k_asm); (case k4zq => k_inst); (case k5zq => exact rfl); (case k6zq => k_is); (case k7zq => k_is); (case k8zq => k_is); (case k9zq => k_is); (case k10zq => k_get); (case k11zq => k_put); (case k12zq => k_upd); (case k13zq => exact Nat.le_of_ble_eq_true rfl); k_whole; intro _ _ _ _; (try k_sweep)))
  trivial


/-- how a def in which a raise was caught hands back: the slots of the frames below may have turned -/
def RetS (A₀ : Around) (base : Heap) (outer : List Env) (K : Frag) (p : Program) (loose : List Str) (mean : ExcName → Option Value) (mg mb : Str → Option Value) (h₀ : Heap) (L : Addr) (m : Str → Option Value) (news : List (Addr × Obj)) (fs : List Addr) (g : Heap) (Q : Value → Shared → Prop) (v : Value) (s' : Shared) : Prop :=
  ∃ g' L' m' own, KtsTurn fs g g' ∧ Fr g' L' s'.heap m' ∧ News g' L' s'.heap own ∧
    (∀ h₀', KtsTurn (outer.filterMap (·.frame)) h₀ h₀' → Fr h₀' L s'.heap m → News h₀' L s'.heap (own ++ news) → Below A₀ base outer h₀' → K.In h₀' → Top p loose mean mg mb h₀' → KtsDicts (outer.filterMap (·.frame)) h₀' → Q v s')
section
variable {prog : Program} {w : World} {K : Frag} {p : Program} {loose : List Str} {mean : ExcName → Option Value} {mg mb : Str → Option Value}
  {dp un : Nat} {gd : Option (List Code)} {cn : Str} {cs : Scope} {a : Addr} {ccd : Value} {outer : List Env} {A₀ : Around} {base h₀ : Heap} {L : Addr}
  {m : Str → Option Value} {news : List (Addr × Obj)} {s : Shared} {Q E : Value → Shared → Prop}
  {name qual : Str} {params : Arguments} {body : List Stmt} {scope : Scope} {dV kV doc pm cdv ct oc : Value} {an od : Option Addr} {osl : Array (Option Value)} {f : Addr} {vs : List Value} {binds : List (Str × Value)}
theorem dicts_no {fs : List Addr} {g : Heap} {b : Addr} {o : Obj} (D : KtsDicts fs g) (h : g.get? b = some o) (hm : b ∈ fs) : ∃ es n, o.data = .dict es n := by
  obtain ⟨o', es, n, e, hd⟩ := D b hm
  rw [h] at e
  cases e
  exact ⟨es, n, hd⟩
theorem enterS (B : Below A₀ base outer h₀) (F : Fr h₀ L s.heap m) (X₀ : K.In h₀) (N : News h₀ L s.heap news) (T : Top p loose mean mg mb h₀) (XB : K.In base) (TB : Top p loose mean mg mb base) (D : KtsDicts (outer.filterMap (·.frame)) h₀)
    (hk : cs.kind = .function) (ho : K.lookup f = some ⟨oc, od, .func (fnOf name qual params body scope dV kV doc pm an cdv ct), osl⟩) (hcd : codeIn K cdv qual = true) (hroom : dp < recursionLimit)
    (hbind : BindsTo s (fnOf name qual params body scope dV kV doc pm an cdv ct) ⟨vs, []⟩ binds) (hloc : ∀ y ∈ binds, scope.names.lookup y.1 = some .local)
    (hco : scope.isCoroutine = false) (hgen : scope.isGenerator = false) (hks : scope.kind = .function) (hcell : ∀ x ∈ scope.names, x.2 ≠ .cell)
    (h : ∀ g L' s₁, Sm s s₁ → GSub s.heap g [] → Fr g L' s₁.heap (fun y => binds.reverse.lookup y) → News g L' s₁.heap [] →
      Below (ktrTop dp un gd cn cs L a ccd [] outer) base (envOf cn cs L a ccd :: outer) g → K.In g → Top p loose mean mg mb g → KtsDicts ((envOf cn cs L a ccd :: outer).filterMap (·.frame)) g →
      let gA : Around := ktrTop (dp + 1) (un + 3) gd qual scope L' f cdv [] (envOf cn cs L a ccd :: outer); let gE : Env := envOf qual scope L' f cdv; wpAny (model prog w) gA (execs body gE)
        (fun fl s' => RetS A₀ base outer K p loose mean mg mb h₀ L m news ((envOf cn cs L a ccd :: outer).filterMap (·.frame)) g Q (match fl with | .ret v => v | _ => .none) s') (fun _ _ => False) s₁) :
    wpAny (model prog w) (ktrTop dp un gd cn cs L a ccd [] outer) (call (.ref f) vs) Q E s := by
  refine wpAny_call ?_
  have X := X₀.keeps F.keep
  refine codeAny_call_def (fd := fnOf name qual params body scope dV kV doc pm an cdv ct) (body := body) (binds := binds) hroom (X _ _ ho) rfl (T.nolimit.keeps F.keep) (codeRec_of X hcd) rfl hbind hcell hloc (fun h₁ hns hk₁ => ?_) hco hgen hks
  obtain ⟨oL, es, ep, hLg, hLd, hN, hNs, st, B₂⟩ := kts_enter (A := ktrTop dp un gd cn cs L a ccd [] outer) (news := []) B F (fun q hq => nomatch hq) rfl hk
  have G : GSub s.heap (hideAll s.heap (([] : List (Addr × Obj)).map (·.1))) [] := fun b o e n => hideAll_get _ e n
  refine wpAny_mono (h _ s.heap.objs.size _ ⟨rfl, rfl⟩ G ⟨hns, fun b o e => hk₁ b o (of_hideAll _ e), Nat.le_of_eq (hideAll_size _ _)⟩ (fun q hq => nomatch hq) B₂ (X₀.keeps st) (T.keeps st) (fun b hb => by
      rcases kts_mem hb with rfl | hb
      · exact ⟨oL, es, ep, hLg, hLd⟩
      · obtain ⟨o, es', n', ho', hd'⟩ := D b hb
        exact ⟨o, es', n', st b o ho', hd'⟩)) (fun fl s' hl => ?_) fun _ _ y => y.elim
  have nL₀ : h₀.get? L = none := kts_self F
  obtain ⟨g', L', m', own, T', F', N', k⟩ := hl
  obtain ⟨sl, hs⟩ := T'.up hLg
  obtain ⟨T₁, S₁⟩ := kts_turn_at (h := s'.heap) (fs := outer.filterMap (·.frame)) (g := h₀)
    (fun b hb => by
      obtain ⟨_, o, ho', _⟩ := B.frames.mem hb
      exact ⟨o, ho'⟩)
    (fun b o e nmem => F'.keep b o (T'.other b o (st b o e) (fun q => by
      rcases kts_mem q with z | z
      · rw [z, nL₀] at e
        cases e
      · exact nmem z)))
    (fun b o e hm => by
      obtain ⟨sl', hs'⟩ := T'.up (st b o e)
      exact ⟨sl', F'.keep _ _ hs'⟩)
  have B₃ : Below A₀ base outer (ktsHeap s'.heap (outer.filterMap (·.frame)) h₀) := ⟨B.stack, fun b o e => T₁.other b o (B.stays b o e) (fun hm => by
    rw [(B.frames.mem hm).1] at e
    cases e), B.frames.of_keeps fun b o e _ => by
    obtain ⟨sl', hs'⟩ := T₁.up e
    exact ⟨_, hs', rfl⟩⟩
  refine k _ T₁ ⟨hNs sl _ (F'.keep _ _ hs), S₁, by rw [T₁.size]; exact F.above⟩ (fun q hq => ?_) B₃ (XB.keeps B₃.stays) (TB.keeps B₃.stays) (D.turn T₁)
  rcases List.mem_append.mp hq with hq | hq
  · refine ⟨(N' q hq).1, fun e => ?_, T₁.none_ _ ?_⟩
    · have := (N' q hq).2.2; rw [e, hs] at this; cases this
    · cases e : h₀.get? q.1 with
      | none => rfl
      | some o =>
        obtain ⟨sl', hs'⟩ := T'.up (st _ _ e)
        have := (N' q hq).2.2
        rw [hs'] at this
        cases this
  · obtain ⟨n1, n2, n3⟩ := N q hq
    refine ⟨F'.keep _ _ (T'.other _ _ (G _ _ n1 (fun h => nomatch h)) (fun hm => ?_)), n2, T₁.none_ _ n3⟩
    rcases kts_mem hm with z | z
    · exact n2 z
    · obtain ⟨_, o, ho', _⟩ := B.frames.mem z
      rw [n3] at ho'
      cases ho'
end
theorem base_keeps {g h : Heap} {L : Addr} {m : Str → Option Value} {bs : List (Addr × Obj)} (hb : ∀ q ∈ bs, g.get? q.1 = some q.2) (F : Fr g L h m) : ∀ q ∈ bs, h.get? q.1 = some q.2 := fun q hq => F.keep _ _ (hb q hq)
end
end Mine

namespace Mine
section


theorem rl_LawG_3 : True := by
  k_with "k_mem" => ((repeat (first | exact List.Mem.head _ | refine' List.Mem.tail _ ?_ | refine' List.mem_append_right _ ?_)); done)
  trivial

theorem all_app {α : Type} {P : α → Prop} {a b : List α} (h : ∀ p ∈ a, P p) (k : ∀ p ∈ b, P p) : ∀ p ∈ a ++ b, P p := fun p hp => (List.mem_append.mp hp).elim (h p) (k p)
theorem menu_many {x : Value} {t1 t2 t3 : Tok} (h : x ∈ [Value.int 1 t1, .int 3 t2, .int 4 t3]) : ∃ c t, x = .int c t ∧ 1 ≤ c ∧ c ≤ 4 := by
  simp only [List.mem_cons, List.not_mem_nil, or_false] at h
  rcases h with rfl | rfl | rfl <;> exact ⟨_, _, rfl, by decide, by decide⟩
theorem menu_step {h₀ h : Heap} {L : Addr} {l : List (Addr × Obj)} {x : Value} {d1 d2 d3 d4 : Addr} {t1 t2 t3 t4 t5 t6 t7 t8 : Tok} (N : News h₀ L h l) (hx : x ∈ [Value.ref d1, .ref d2, .ref d3, .ref d4])
    (m1 : (d1, ({ cls := .type "tuple", data := .seq #[.int 1 t1, .int 0 t2] } : Obj)) ∈ l) (m2 : (d2, ({ cls := .type "tuple", data := .seq #[.int 0 t3, .int 2 t4] } : Obj)) ∈ l)
    (m3 : (d3, ({ cls := .type "tuple", data := .seq #[.int 2 t5, .int 1 t6] } : Obj)) ∈ l) (m4 : (d4, ({ cls := .type "tuple", data := .seq #[.int (-1) t7, .int 3 t8] } : Obj)) ∈ l) :
    ∃ a dx dy u v, x = .ref a ∧ (a, ({ cls := .type "tuple", data := .seq #[.int dx u, .int dy v] } : Obj)) ∈ l ∧ (-1 ≤ dx ∧ dx ≤ 2) ∧ (0 ≤ dy ∧ dy ≤ 3) ∧ 0 < dx * dx + dy * dy := by
  simp only [List.mem_cons, List.not_mem_nil, or_false] at hx
  rcases hx with rfl | rfl | rfl | rfl
  · exact ⟨_, _, _, _, _, rfl, m1, by decide, by decide, by decide⟩
  · exact ⟨_, _, _, _, _, rfl, m2, by decide, by decide, by decide⟩
  · exact ⟨_, _, _, _, _, rfl, m3, by decide, by decide, by decide⟩
  · exact ⟨_, _, _, _, _, rfl, m4, by decide, by decide, by decide⟩
theorem bd_xy {X T dx d dy : Int} (h1 : -4 ≤ X ∧ X ≤ 4) (h2 : -5 ≤ T ∧ T ≤ 7) (h3 : -1 ≤ dx ∧ dx ≤ 2) (h4 : -1 ≤ d ∧ d ≤ 1) (h5 : 0 ≤ dy ∧ dy ≤ 3) : (-(2 ^ 6) < X + T * dx - d * dy ∧ X + T * dx - d * dy < 2 ^ 6) ∧ -(2 ^ 6) < X + T * dy + d * dx ∧ X + T * dy + d * dx < 2 ^ 6 := by
  have q1 := mul_bd (x := T) (y := dx) (a := 8) (b := 3) (by k_extra "om") (by k_extra "om")
  have q2 := mul_bd (x := d) (y := dy) (a := 2) (b := 4) (by k_extra "om") (by k_extra "om")
  have q3 := mul_bd (x := T) (y := dy) (a := 8) (b := 4) (by k_extra "om") (by k_extra "om")
  have q4 := mul_bd (x := d) (y := dx) (a := 2) (b := 3) (by k_extra "om") (by k_extra "om")
  omega
theorem lin_hC {X Y T dx d dy many : Int} : ((X + T * dx - d * dy - X) * (many * dx) + (Y + T * dy + d * dx - Y) * (many * dy)) * many = T * (many * dx * (many * dx) + many * dy * (many * dy)) := by grind
theorem spr_b {k : Kd} {T b : Int} (h1 : 0 < b) (h2 : b < 2 ^ 10) : -(2 ^ 10) < spr k T b ∧ spr k T b < 2 ^ 10 := by
  have := spr_bd (k := k) (T := T) h1
  omega
section
variable {prog : Program} {w : World} {p : Program} {loose : List Str} {mean : ExcName → Option Value} {mg mb : Str → Option Value}
  {dp un : Nat} {gd : Option (List Code)} {cn : Str} {cs : Scope} {a : Addr} {ccd : Value} {cl : List (Str × Addr)} {outer : List Env} {A₀ : Around} {base h₀ : Heap} {L : Addr}
  {m : Str → Option Value} {news : List (Addr × Obj)} {s : Shared} {Q E : Value → Shared → Prop}
theorem rl_LawG_4 : True := by
  k_with "call ref" => (k_here; (with_reducible show wpAny _ _ (call (Value.ref 523) _) _ _ _); k_dflt (refine' law_middle_spec ?cBzq ?cFzq ?cXzq ?cNzq ?cTzq ?ckzq ?cdzq ?cuzq ?p0zq ?p1zq ?_; (case cBzq => k_asm); (case cFzq => k_asm); (case cXzq => k_asm); (case cNzq => k_asm); (case cTzq => k_asm); (case ckzq => first | rfl | assumption); (case cdzq => k_extra "om"); (case cuzq => k_extra "om"); (case p0zq => k_extra "om"); (case p1zq => k_extra "om"); k_whole; intro v9 own9 s9 H9 S9 F9 N9; (obtain ⟨a9, x9, y9, s91, s92, s93, s94, e91, e92⟩ := H9; subst e91; subst e92; (try dsimp only [List.cons_append, List.nil_append] at N9)); (revert s9 S9 F9 N9 a9 x9 y9 s91 s92 s93 s94; intros); (try k_sweep)))
  k_with "call ref" => (k_here; (with_reducible show wpAny _ _ (call (Value.ref 293) _) _ _ _); k_dflt (refine' mkstops_spec ?cBzq ?cFzq ?cXzq ?cNzq ?cTzq ?ckzq ?cdzq ?cuzq ?p0zq ?p1zq ?p2zq ?p3zq ?_; (case cBzq => k_asm); (case cFzq => k_asm); (case cXzq => k_asm); (case cNzq => k_asm); (case cTzq => k_asm); (case ckzq => first | rfl | assumption); (case cdzq => k_extra "om"); (case cuzq => k_extra "om"); (case p0zq => (exact base_keeps (by assumption) (by k_asm))); (case p1zq => assumption); (case p2zq => assumption); (case p3zq => k_extra "om"); k_whole; intro v9 own9 s9 H9 G9 S9 F9 N9; (have A9 := fresh_led (by assumption) G9); (have K9 := Known.ofFb F9 (by assumption) (by assumption) H9); clear G9; (revert v9 own9 s9 H9 S9 F9 N9 A9 K9; intros); (try k_sweep)))
  k_with "call ref" => (k_here; (with_reducible show wpAny _ _ (call (Value.ref 466) _) _ _ _); k_dflt (refine' identity_spec ?cBzq ?cFzq ?cXzq ?cNzq ?cTzq ?ckzq ?cdzq ?cuzq  ?_; (case cBzq => k_asm); (case cFzq => k_asm); (case cXzq => k_asm); (case cNzq => k_asm); (case cTzq => k_asm); (case ckzq => first | rfl | assumption); (case cdzq => k_extra "om"); (case cuzq => k_extra "om");  k_whole; intro v9 own9 s9 H9 G9 S9 F9 N9; (have A9 := fresh_led (by assumption) G9); clear G9; (revert v9 own9 s9 H9 S9 F9 N9 A9; intros); (try k_sweep)))
  k_with "call ref" => (k_here; (with_reducible show wpAny _ _ (call (Value.ref 342) _) _ _ _); k_dflt (refine' mklinear_spec ?cBzq ?cFzq ?cXzq ?cNzq ?cTzq ?ckzq ?cdzq ?cuzq ?p0zq ?p1zq ?p2zq ?p3zq ?p4zq ?p5zq ?p6zq ?p7zq ?_; (case cBzq => k_asm); (case cFzq => k_asm); (case cXzq => k_asm); (case cNzq => k_asm); (case cTzq => k_asm); (case ckzq => first | rfl | assumption); (case cdzq => k_extra "om"); (case cuzq => k_extra "om"); (case p0zq => (first | exact known_pt (by assumption) (by k_asm) (by k_asm) (by (intro q hq; simp only [List.mem_cons, List.mem_append, hq, or_true, true_or])) | (first | exact PtAt.keeps (by with_reducible assumption) (Fr.keep (by k_asm)) | exact pt_news (by k_asm) (by k_mem) (by k_mem) (by k_mem)))); (case p1zq => (first | exact known_pt (by assumption) (by k_asm) (by k_asm) (by (intro q hq; simp only [List.mem_cons, List.mem_append, hq, or_true, true_or])) | (first | exact PtAt.keeps (by with_reducible assumption) (Fr.keep (by k_asm)) | exact pt_news (by k_asm) (by k_mem) (by k_mem) (by k_mem)))); (case p2zq => assumption); (case p3zq => assumption); (case p4zq => k_extra "om"); (case p5zq => k_extra "om"); (case p6zq => k_extra "om"); (case p7zq => k_extra "om"); k_whole; intro v9 own9 s9 H9 G9 S9 F9 N9; (have A9 := fresh_led (by assumption) G9); (have K9 := Known.ofF F9 (by assumption) H9); clear G9; (revert v9 own9 s9 H9 S9 F9 N9 A9 K9; intros); (try k_sweep)))
  k_with "call ref" => (k_here; (with_reducible show wpAny _ _ (call (Value.ref 332) _) _ _ _); k_dflt (refine' lin_share_spec ?cBzq ?cFzq ?cXzq ?cNzq ?cTzq ?ckzq ?cdzq ?cuzq ?p0zq ?p1zq ?p2zq ?p3zq ?p4zq ?p5zq ?p6zq ?p7zq ?p8zq ?p9zq ?p10zq ?p11zq ?_; (case cBzq => k_asm); (case cFzq => k_asm); (case cXzq => k_asm); (case cNzq => k_asm); (case cTzq => k_asm); (case ckzq => first | rfl | assumption); (case cdzq => k_extra "om"); (case cuzq => k_extra "om"); (case p0zq => (exact known_lin (by assumption) (by k_asm) (by k_asm) (by (intro q hq; simp only [List.mem_cons, List.mem_append, hq, or_true, true_or])))); (case p1zq => (exact known_pt (by assumption) (by k_asm) (by k_asm) (by (intro q hq; simp only [List.mem_cons, List.mem_append, hq, or_true, true_or])))); (case p2zq => (exact known_mat (by assumption) (by k_asm) (by k_asm) (by (intro q hq; simp only [List.mem_cons, List.mem_append, hq, or_true, true_or])))); (case p3zq => k_extra "om"); (case p4zq => k_extra "om"); (case p5zq => (exact (bd_xy (by assumption) (by omega) (by assumption) (by omega) (by assumption)).1)); (case p6zq => (exact (bd_xy (by assumption) (by omega) (by assumption) (by omega) (by assumption)).2)); (case p7zq => k_extra "om"); (case p8zq => k_extra "om"); (case p9zq => assumption); (case p10zq => (exact lin_hC)); (case p11zq => k_extra "om"); k_whole; intro _ _ _ _ _ _ _; (try k_sweep)))
  k_with "call ref" => (k_here; (with_reducible show wpAny _ _ (call (Value.ref 339) _) _ _ _); k_dflt (refine' lin_colour_spec ?cBzq ?cFzq ?cXzq ?cNzq ?cTzq ?ckzq ?cdzq ?cuzq ?p0zq ?p1zq ?p2zq ?p3zq ?p4zq ?p5zq ?p6zq ?p7zq ?p8zq ?p9zq ?p10zq ?p11zq ?p12zq ?p13zq ?p14zq ?p15zq ?p16zq ?_; (case cBzq => k_asm); (case cFzq => k_asm); (case cXzq => k_asm); (case cNzq => k_asm); (case cTzq => k_asm); (case ckzq => first | rfl | assumption); (case cdzq => k_extra "om"); (case cuzq => k_extra "om"); (case p0zq => (exact known_lin (by assumption) (by k_asm) (by k_asm) (by (intro q hq; simp only [List.mem_cons, List.mem_append, hq, or_true, true_or])))); (case p1zq => (exact known_pt (by assumption) (by k_asm) (by k_asm) (by (intro q hq; simp only [List.mem_cons, List.mem_append, hq, or_true, true_or])))); (case p2zq => (exact known_mat (by assumption) (by k_asm) (by k_asm) (by (intro q hq; simp only [List.mem_cons, List.mem_append, hq, or_true, true_or])))); (case p3zq => (exact known_stops (by assumption) (by k_asm) (by k_asm) (by (intro q hq; simp only [List.mem_cons, List.mem_append, hq, or_true, true_or])))); (case p16zq => (exact lin_hC)); (case p4zq => assumption); (case p5zq => assumption); (case p6zq => assumption); (case p7zq => k_extra "om"); (case p8zq => k_extra "om"); (case p9zq => (exact (bd_xy (by assumption) (by omega) (by assumption) (by omega) (by assumption)).1)); (case p10zq => (exact (bd_xy (by assumption) (by omega) (by assumption) (by omega) (by assumption)).2)); (case p11zq => k_extra "om"); (case p12zq => k_extra "om"); (case p13zq => assumption); (case p14zq => k_extra "om"); (case p15zq => k_extra "om"); k_whole; intro _ _ _ _ _ _ _ _ _; (try k_sweep)))
  k_with "call ref" => (k_here; (with_reducible show wpAny _ _ (call (Value.ref 339) _) _ _ _); k_dflt (refine' lin_colour0_spec ?cBzq ?cFzq ?cXzq ?cNzq ?cTzq ?ckzq ?cdzq ?cuzq ?p0zq ?p1zq ?p2zq ?p3zq ?_; (case cBzq => k_asm); (case cFzq => k_asm); (case cXzq => k_asm); (case cNzq => k_asm); (case cTzq => k_asm); (case ckzq => first | rfl | assumption); (case cdzq => k_extra "om"); (case cuzq => k_extra "om"); (case p0zq => (exact known_lin (by assumption) (by k_asm) (by k_asm) (by (intro q hq; simp only [List.mem_cons, List.mem_append, hq, or_true, true_or])))); (case p1zq => (exact known_stops (by assumption) (by k_asm) (by k_asm) (by (intro q hq; simp only [List.mem_cons, List.mem_append, hq, or_true, true_or])))); (case p2zq => assumption); (case p3zq => assumption); k_whole; intro _ _ _ _ _ _ _ _ _; (try k_sweep)))
  k_with "call ref" => (k_here; (with_reducible show wpAny _ _ (call (Value.ref 108) _) _ _ _); k_dflt (refine' fraction_spec ?cBzq ?cFzq ?cXzq ?cNzq ?cTzq ?ckzq ?cdzq ?cuzq ?p0zq ?p1zq ?p2zq ?_; (case cBzq => k_asm); (case cFzq => k_asm); (case cXzq => k_asm); (case cNzq => k_asm); (case cTzq => k_asm); (case ckzq => first | rfl | assumption); (case cdzq => k_extra "om"); (case cuzq => k_extra "om"); (case p0zq => k_extra "om"); (case p1zq => k_extra "om"); (case p2zq => k_extra "om"); k_whole; intro _ _ _ _ _ _ _; (try k_sweep)))
  k_with "call ref" => (k_here; (with_reducible show wpAny _ _ (call (Value.ref 506) _) _ _ _); k_dflt (refine' law_spread_spec ?cBzq ?cFzq ?cXzq ?cNzq ?cTzq ?ckzq ?cdzq ?cuzq ?p0zq ?p1zq ?p2zq ?_; (case cBzq => k_asm); (case cFzq => k_asm); (case cXzq => k_asm); (case cNzq => k_asm); (case cTzq => k_asm); (case ckzq => first | rfl | assumption); (case cdzq => k_extra "om"); (case cuzq => k_extra "om"); (case p0zq => (first | rfl | assumption)); (case p1zq => k_extra "om"); (case p2zq => k_extra "om"); k_whole; intro v9 u9 s9 e9 S9 F9 N9; subst e9; (revert u9 s9 S9 F9 N9; intros); (try k_sweep)))
  k_with "call ref" => (k_here; (with_reducible show wpAny _ _ (call (Value.ref 516) _) _ _ _); k_dflt (refine' law_colour_spec ?cBzq ?cFzq ?cXzq ?cNzq ?cTzq ?ckzq ?cdzq ?cuzq ?p0zq ?p1zq ?p2zq ?p3zq ?p4zq ?p5zq ?p6zq ?_; (case cBzq => k_asm); (case cFzq => k_asm); (case cXzq => k_asm); (case cNzq => k_asm); (case cTzq => k_asm); (case ckzq => first | rfl | assumption); (case cdzq => k_extra "om"); (case cuzq => k_extra "om"); (case p0zq => (exact OrdsAt.keeps (by assumption) (Fr.keep (by k_asm)))); (case p1zq => assumption); (case p2zq => assumption); (case p3zq => assumption); (case p4zq => assumption); (case p5zq => k_extra "om"); (case p6zq => (exact spr_b (by omega) (by omega))); k_whole; intro _ _ _ _ _ _ _ _ _; (try k_sweep)))
  k_with "compareOp NotEq ref ref" => (k_here; k_dflt (first | (refine' ne_four ?nzq ?azq ?bzq ?uzq ?_; (case nzq => k_asm); (case azq => with_reducible k_mem); (case bzq => with_reducible k_mem); (case uzq => ktr_units); k_whole) | (refine' ne_fr ?nzq ?azq ?bzq ?uzq ?_; (case nzq => k_asm); (case azq => with_reducible k_mem); (case bzq => with_reducible k_mem); (case uzq => ktr_units); k_whole)))
  k_with "getMethod" => (k_here; k_dflt (refine' method_lin ?Kzq ?Fzq ?Xzq ?nzq ?gzq ?fzq ?tzq ?_; (case Kzq => exact known_lin (by assumption) (by k_asm) (by k_asm) (by (intro q hq; simp only [List.mem_cons, List.mem_append, hq, or_true, true_or]))); (case Fzq => k_asm); (case Xzq => k_asm); (case nzq => first | exact fun es h => h.1 | exact fun es h => h.2.1); (case gzq => k_is); (case fzq => k_is); (case tzq => k_is); k_whole))
  k_with "compareOp Eq ref ref" => (k_here; k_dflt (first | (refine' eq_four ?nzq ?azq ?bzq ?uzq ?_; (case nzq => k_asm); (case azq => with_reducible k_mem); (case bzq => with_reducible k_mem); (case uzq => ktr_units); k_whole) | (refine' eq_fr ?nzq ?azq ?bzq ?uzq ?_; (case nzq => k_asm); (case azq => with_reducible k_mem); (case bzq => with_reducible k_mem); (case uzq => ktr_units); k_whole)))
  k_with "subscriptTail Name UnaryOp ref int" => (k_here; (with_reducible show wpAny _ _ (subscriptTail _ _ (Value.ref _) (Value.int (-1) _)) _ _ _); k_dflt (refine' item_last (isList_keeps (by assumption) (Fr.keep (by k_asm))) (by assumption) ?_))
  k_with "binaryOp Mult int int" => (refine' my_mulR ?qzq ?_; (case qzq => assumption); k_whole)
  trivial
theorem law_line_right_spec {vl vt : Value} {k : Kd} {tk0 : Tok} {rows : List Row} {bs : List (Addr × Obj)} {src : Addr} {s0 s1 : Int} {u1 u2 : Tok} {n : Nat} {rest : List (Addr × Obj)} (zB : Below A₀ base outer h₀) (zF : Fr h₀ L s.heap m) (zX : (hd.heap_39 w.params).In h₀) (zN : News h₀ L s.heap news) (zT : Top p loose mean mg mb h₀) (zk : cs.kind = .function) (hd : dp + 16 < recursionLimit) (hu : un + 320 < cLine) (hsp : Split news src (listOf #[.int s0 u1, .int s1 u2] n) rest) (hdis : Apart src rest) (h0 : 0 ≤ s0) (h1 : 0 ≤ s1 ∧ s1 < 2147483647) (hbs : ∀ q ∈ bs, s.heap.get? q.1 = some q.2) (hap : Apart src bs) (ht : RowsIn w bs vt rows) (hl : Holds w bs (fun h => OrdsAt h vl (ordF 0 rows)))
    (hr : ∀ x ∈ rows, x.ok ∧ -1 ≤ x.o ∧ x.o ≤ 9) (hn : 0 < rows.length ∧ rows.length ≤ 4)
    (ret : ∀ z0 z1 v1 v2 n' s', 0 ≤ z0 → (0 ≤ z1 ∧ z1 < 2147483647) → Sm s s' → Fr h₀ L s'.heap m → News h₀ L s'.heap ((src, listOf #[.int z0 v1, .int z1 v2] n') :: rest) → Q (.bool true) s') :
    wpAny (model prog w) (ktrTop dp un gd cn cs L a ccd cl outer) (call (.ref 530) [.ref src, vl, vt, .str k.str tk0]) Q E s := by
  k_dflt (refine' enterM (mu := [(src, listOf #[.int s0 u1, .int s1 u2] n)]) (binds := [(Str.ofString "source", .ref src), (Str.ofString "stops", vl), (Str.ofString "told", vt), (Str.ofString "kind", .str k.str tk0)]) zB zF zX (Split.news hsp zN) (fun q hq hm => hdis q hq (List.mem_singleton.mp hm)) zT zk ?k6 ?k7 ?k8 ?k9 ?kB ?c2 ?c3 ?c4 ?c5 ?_; (case k6 => k_is); (case k7 => k_is); (case k8 => k_extra "om"); (case k9 => first | exact BindsTo.of_eq rfl | exact binds_K (Frag.In.keeps zX zF.keep) rfl (by k_is) rfl rfl rfl); (case c5 => decide); (case kB => exact locs rfl); (case c2 => exact rfl); (case c3 => exact rfl); (case c4 => exact rfl); k_whole; intro gg gL gs gS gG gF gN gB gX gT gA gE; (try dsimp only); (try k_fold))
  show wpAny _ (ktrTop _ _ _ _ _ _ _ _ _ _) _ _ _ _
  clear gA
  have hbg : ∀ q ∈ bs, gg.get? q.1 = some q.2 := fun q hq => gG _ _ (hbs q hq) (by simpa using hap q hq)
  k_extra "S"
  rename News gg _ _ _ => N5
  rename Fr gg _ _ _ => F5
  rename_i r1 _ _ _ _ _ _ _ _ _ b1 _ r2 _ _ _ _ _ _ _ _ _ b2 _ _ _ _ _ _ _ _ _ _ _ _ _ _ _ _ _ _ _ _ _ _ _ _ xs _ _ _ _ _ _ _ _ bs1 _ _ _ _ xm za zb va vb nn _ ba bb bm _ _ _ _ _ _ _ h5 _
  refine hideG fun Gzq kzq => ?_
  obtain ⟨many, tm, rfl, bm1, bm2⟩ := menu_many bm
  obtain ⟨sa, dx, dy, p1, p2, rfl, hsa, bx, by', hS⟩ := menu_step N5 bs1 (by k_mem) (by k_mem) (by k_mem) (by k_mem)
  refine kzq ?_
  clear kzq Gzq
  clear bm bs1
  have hdx : -(2 ^ 62) < dx ∧ dx < 2 ^ 62 := ⟨by k_extra "om", by k_extra "om"⟩
  have hdy : -(2 ^ 62) < dy ∧ dy < 2 ^ 62 := ⟨by k_extra "om", by k_extra "om"⟩
  have bX : -4 ≤ r1 - 4 ∧ r1 - 4 ≤ 4 := by k_extra "om"
  have bY : -4 ≤ r2 - 4 ∧ r2 - 4 ≤ 4 := by k_extra "om"
  clear b1 b2
  generalize r1 - 4 = X at *
  generalize r2 - 4 = Y at *
  refine hideG fun Gzq kzq => ?_
  obtain ⟨mm, tX, tY, F2, hmx, hmy, hms, hmm, hm1, hm2, hm3, hm4⟩ : ∃ mm tX tY, Fr gg gL h5.heap mm ∧ mm (Str.ofString "x") = some (.int X tX) ∧ mm (Str.ofString "y") = some (.int Y tY) ∧ mm (Str.ofString "step") = some (.ref sa) ∧ mm (Str.ofString "many") = some (.int many tm) ∧
      mm (Str.ofString "source") = some (.ref src) ∧ mm (Str.ofString "stops") = some vl ∧ mm (Str.ofString "told") = some vt ∧ mm (Str.ofString "kind") = some (.str k.str tk0) :=
    ⟨_, _, _, F5, rfl, rfl, rfl, rfl, rfl, rfl, rfl, rfl⟩
  refine kzq ?_
  clear kzq Gzq
  have N2 : News gg gL h5.heap [(src, listOf #[.int za va, .int zb vb] nn), (sa, { cls := .type "tuple", data := .seq #[.int dx p1, .int dy p2] })] := fun q hq => N5 q (by
    rcases List.mem_cons.mp hq with rfl | hq
    · k_mem
    · rw [List.mem_singleton.mp hq]; exact hsa)
  clear N5 F5 hsa
  have qA := mul_bd (x := many) (y := dx) (a := 5) (b := 3) (by k_extra "om") (by k_extra "om")
  have qB := mul_bd (x := many) (y := dy) (a := 5) (b := 4) (by k_extra "om") (by k_extra "om")
  have hA : 2 * (X + many * dx) + 1 - (2 * X + 1) = 2 * (many * dx) := by k_extra "om"
  have hB : 2 * (Y + many * dy) + 1 - (2 * Y + 1) = 2 * (many * dy) := by k_extra "om"
  k_extra "S"
  rename News gg _ _ _ => N6
  rename Fr gg _ _ _ => F6
  rename_i ae xe ye e1 e2 e3 e4 _ _ vS oS _ HS _ AS KSx _ _ ap xp yp f1 f2 f3 f4 vM oM _ HM _ AM vL oL _ HL _ AL KLx h6 _
  refine hideG fun Gzq kzq => ?_
  obtain ⟨pin, N7, hap7, KL, KM, KS, KP, KE⟩ : ∃ pin, News gg gL h6.heap ((src, listOf #[.int za va, .int zb vb] nn) :: (sa, { cls := .type "tuple", data := .seq #[.int dx p1, .int dy p2] }) :: pin) ∧ Apart src pin ∧
      Known gg gL pin (fun h => LinAt h vL vS (.ref ap) vM k (many * dx) (many * dy)) ∧ Known gg gL pin (fun h => MatAt h vM) ∧ Known gg gL pin (fun h => StopsAt h vS (ordF 0 rows)) ∧ Known gg gL pin (fun h => PtAt h (.ref ap) (2 * X + 1) 2 (2 * Y + 1) 2) ∧
      Known gg gL pin (fun h => PtAt h (.ref ae) (2 * (X + many * dx) + 1) 2 (2 * (Y + many * dy) + 1) 2) := by
    refine ⟨oL ++ (oM ++ (ap, tupO [.ref xp, .ref yp]) :: (xp, frO (2 * X + 1) 2 f1 f2) :: (yp, frO (2 * Y + 1) 2 f3 f4) :: (oS ++ [(ae, tupO [.ref xe, .ref ye]), (xe, frO (2 * (X + many * dx) + 1) 2 e1 e2), (ye, frO (2 * (Y + many * dy) + 1) 2 e3 e4)])), fun q hq => N6 q ?_, ?_, ?_, ?_, ?_, ?_, ?_⟩
    · revert q
      exact all_cons (by k_mem) (all_cons (by k_mem) (all_app (fun q hq => by (repeat (first | assumption | exact List.mem_append_left _ (by assumption) | refine' List.Mem.tail _ ?_ | refine' List.mem_append_right _ ?_))) (all_app (fun q hq => by (repeat (first | assumption | exact List.mem_append_left _ (by assumption) | refine' List.Mem.tail _ ?_ | refine' List.mem_append_right _ ?_))) (all_cons (by k_mem) (all_cons (by k_mem) (all_cons (by k_mem) (all_app (fun q hq => by (repeat (first | assumption | exact List.mem_append_left _ (by assumption) | refine' List.Mem.tail _ ?_ | refine' List.mem_append_right _ ?_))) (all_cons (by k_mem) (all_cons (by k_mem) (all_cons (by k_mem) all_nil))))))))))
    · refine Apart.append (fun q hq => AL _ (show (src, listOf #[.int za va, .int zb vb] nn) ∈ _ by k_mem) q hq) (Apart.append (fun q hq => AM _ (show (src, listOf #[.int za va, .int zb vb] nn) ∈ _ by k_mem) q hq) ?_)
      refine Apart.cons ?_ (Apart.cons ?_ (Apart.cons ?_ (Apart.append (fun q hq => AS _ (show (src, listOf #[.int za va, .int zb vb] nn) ∈ _ by k_mem) q hq) (Apart.cons ?_ (Apart.cons ?_ (Apart.cons ?_ Apart.nil))))))
      all_goals exact ne_of_cls N6 (by k_mem) (by k_mem) (by intro hq; exact absurd (Value.type.inj hq) (by decide))
    · exact (Known.of0 HL gX).more fun q hq => by simp [hq]
    · exact (Known.of0 HM gX).more fun q hq => by simp [hq]
    · exact (Known.of HS gX hbg).more fun q hq => by simp [hq]
    · exact fun h m l F N hs => ⟨ap, .ref xp, .ref yp, rfl, News.isTup N (hs _ (by k_mem)), ⟨xp, f1, f2, rfl, News.isTup N (hs _ (by k_mem))⟩, ⟨yp, f3, f4, rfl, News.isTup N (hs _ (by k_mem))⟩⟩
    · exact fun h m l F N hs => ⟨ae, .ref xe, .ref ye, rfl, News.isTup N (hs _ (by k_mem)), ⟨xe, e1, e2, rfl, News.isTup N (hs _ (by k_mem))⟩, ⟨ye, e3, e4, rfl, News.isTup N (hs _ (by k_mem))⟩⟩
  refine kzq ?_
  clear kzq Gzq
  clear N6 HS AS HM AM HL AL KSx KLx
  refine hideG fun Gzq kzq => ?_
  obtain ⟨hpr, hso⟩ := ordF_props 0 rows (by k_extra "om") (fun x hx => (hr x hx).1)
  refine kzq ?_
  clear kzq Gzq
  have hpr' : ∀ x ∈ ordF 0 rows, x.ok ∧ 0 ≤ x.o ∧ x.o ≤ 8 := hpr
  have hlen := ordF_len 0 rows
  have hne0 : ordF 0 rows ≠ [] := fun h => by rw [h] at hlen; simp at hlen; omega
  have hle4 : (ordF 0 rows).length ≤ 4 := by k_extra "om"
  have hord : OrdsAt gg vl (ordF 0 rows) := hl gg gX hbg
  have hSS : 0 < many * dx * (many * dx) + many * dy * (many * dy) := by
    have e : many * dx * (many * dx) + many * dy * (many * dy) = (many * many) * (dx * dx + dy * dy) := by grind
    rw [e]
    exact Int.mul_pos (Int.mul_pos (by k_extra "om") (by k_extra "om")) hS
  clear hpr
  generalize hR0 : ordF 0 rows = R at *
  refine hideG fun Gzq kzq => ?_
  obtain ⟨mm2, F7, gmx, gmy, gms, gmm, gm1, gm2, gm4, gm5, gm6, gm7⟩ : ∃ mm2, Fr gg gL h6.heap mm2 ∧ mm2 (Str.ofString "x") = some (.int X tX) ∧ mm2 (Str.ofString "y") = some (.int Y tY) ∧ mm2 (Str.ofString "step") = some (.ref sa) ∧ mm2 (Str.ofString "many") = some (.int many tm) ∧
      mm2 (Str.ofString "source") = some (.ref src) ∧ mm2 (Str.ofString "stops") = some vl ∧ mm2 (Str.ofString "kind") = some (.str k.str tk0) ∧ mm2 (Str.ofString "line") = some vL ∧ mm2 (Str.ofString "end") = some (.ref ae) ∧ mm2 (Str.ofString "told") = some vt :=
    ⟨_, F6, hmx, hmy, hms, hmm, hm1, hm2, hm4, rfl, rfl, hm3⟩
  refine kzq ?_
  clear kzq Gzq
  clear F6
  refine wpAny_For ?_
  k_extra "S"
  rename News gg _ _ _ => N8
  rename Fr gg _ _ _ => F8
  rename_i rr _ zc zd vc vd nd _ bc bd brr _ lst h8 _
  refine hideG fun Gzq kzq => ?_
  obtain ⟨l1t, l3t, N8⟩ : ∃ l1t l3t, News gg gL h8.heap ((lst, listOf #[.int 0 l1t, .int many tm, .int (rr - 5) l3t] 0) :: (src, listOf #[.int zc vc, .int zd vd] nd) :: (sa, { cls := .type "tuple", data := .seq #[.int dx p1, .int dy p2] }) :: pin) := ⟨_, _, N8⟩
  refine kzq ?_
  clear kzq Gzq
  have hls : lst ≠ src := ne_of_data N8 (.head _) (.tail _ (.head _)) (by intro hq; cases hq)
  refine for_list (l := lst) (vs := [.int 0 l1t, .int many tm, .int (rr - 5) l3t]) (pin := (lst, listOf #[.int 0 l1t, .int many tm, .int (rr - 5) l3t] 0) :: (sa, { cls := .type "tuple", data := .seq #[.int dx p1, .int dy p2] }) :: pin) (nw := [(src, listOf #[.int zc vc, .int zd vd] nd)]) rfl (N8.isList (.head _)) (.inr ⟨_, .head _⟩)
    (fun i m₁ nw => ∃ z0 z1 v1 v2 nS, nw = [(src, listOf #[.int z0 v1, .int z1 v2] nS)] ∧ 0 ≤ z0 ∧ (0 ≤ z1 ∧ z1 < 2147483647) ∧ (m₁ (Str.ofString "x") = some (.int X tX) ∧ m₁ (Str.ofString "y") = some (.int Y tY) ∧ m₁ (Str.ofString "step") = some (.ref sa) ∧ m₁ (Str.ofString "many") = some (.int many tm) ∧ m₁ (Str.ofString "source") = some (.ref src) ∧ m₁ (Str.ofString "stops") = some vl ∧ m₁ (Str.ofString "kind") = some (.str k.str tk0) ∧ m₁ (Str.ofString "line") = some vL ∧ m₁ (Str.ofString "end") = some (.ref ae) ∧ m₁ (Str.ofString "told") = some vt))
    F8 (fun q hq => N8 q (all_app (all_cons (.head _) (all_cons (.tail _ (.tail _ (.head _))) (fun q hq => .tail _ (.tail _ (.tail _ hq))))) (all_cons (.tail _ (.head _)) all_nil) q hq)) ?_ ?_ ?_
  · exact ⟨_, _, _, _, _, rfl, bc, bd, gmx, gmy, gms, gmm, gm1, gm2, gm4, gm5, gm6, gm7⟩
  · intro I i v hlt hv m₁ nw₁ s1 oI hJ hne ⟨fI, hoI⟩ S1 F N
    refine hideG fun Gzq kzq => ?_
    obtain ⟨z0, z1, v1, v2, nS, rfl, hb0, hb1, kx, ky, ks, km, k1, k2, k4, k5, k6, k7⟩ := hJ
    refine kzq ?_
    clear kzq Gzq
    clear F8 gmx gmy gms gmm gm1 gm2 gm4 gm5 gm6 gm7
    have hT : ∃ T tT, v = .int T tT ∧ -5 ≤ T ∧ T ≤ 7 := by
      have := List.mem_of_getElem? hv
      simp only [List.mem_cons, List.not_mem_nil, or_false] at this
      rcases this with rfl | rfl | rfl <;> exact ⟨_, _, rfl, by k_extra "om", by k_extra "om"⟩
    refine hideG fun Gzq kzq => ?_
    obtain ⟨T, tT, rfl, hT1, hT2⟩ := hT
    refine kzq ?_
    clear kzq Gzq
    have nIs : I ≠ src := Ne.symm (hne _ (.head _))
    replace N : News gg gL s1.heap ((I, oI) :: (src, listOf #[.int z0 v1, .int z1 v2] nS) :: (lst, listOf #[.int 0 l1t, .int many tm, .int (rr - 5) l3t] 0) :: (sa, { cls := .type "tuple", data := .seq #[.int dx p1, .int dy p2] }) :: pin) := fun q hq => N q (all_cons (.head _) (all_cons (.tail _ (List.mem_append_right _ (.head _))) (all_cons (.tail _ (List.mem_append_left _ (.head _))) (all_cons (.tail _ (List.mem_append_left _ (.tail _ (.head _)))) (fun q hq => .tail _ (List.mem_append_left _ (.tail _ (.tail _ hq))))))) q hq)
    clear N8 hv hne hlt
    have q1 := mul_bd (x := T) (y := dx) (a := 8) (b := 3) (by k_extra "om") (by k_extra "om")
    have q3 := mul_bd (x := T) (y := dy) (a := 8) (b := 4) (by k_extra "om") (by k_extra "om")
    k_extra "S"
    all_goals (
      refine' ForOn.mk _ [(src, listOf #[.int _ _, .int _ _] _)] _ (by k_extra "sm") ?z1 ?z2 ?z3 ?z4 ?z5 ?z6 ⟨_, _, _, _, _, rfl, ?z7, ?z8, ?z9⟩
      case z1 => assumption
      case z2 => assumption
      case z5 =>
        intro p hp
        rw [List.mem_singleton.mp hp]
        k_mem
      case z3 => k_mem
      case z4 =>
        intro p hp
        rcases List.mem_cons.mp hp with rfl | hp
        · k_mem
        · rcases List.mem_cons.mp hp with rfl | hp
          · k_mem
          · simp only [List.mem_cons, List.mem_append, hp, or_true, true_or]
      case z6 =>
        intro p hp
        rw [List.mem_singleton.mp hp]
        exact Ne.symm nIs
      case z7 => assumption
      case z8 => assumption
      case z9 => exact ⟨kx, ky, ks, km, k1, k2, k4, k5, k6, k7⟩)
  · intro m₁ nw₁ s1 hJ S1 F N
    refine hideG fun Gzq kzq => ?_
    obtain ⟨z0, z1, v1, v2, nS, rfl, hb0, hb1, kx, ky, ks, km, k1, k2, k4, k5, k6, k7⟩ := hJ
    refine kzq ?_
    clear kzq Gzq
    clear F8 gmx gmy gms gmm gm1 gm2 gm4 gm5 gm6 gm7
    replace N : News gg gL s1.heap ((src, listOf #[.int z0 v1, .int z1 v2] nS) :: (sa, { cls := .type "tuple", data := .seq #[.int dx p1, .int dy p2] }) :: pin) := fun q hq => N q (all_cons (List.mem_append_right _ (.head _)) (all_cons (List.mem_append_left _ (.tail _ (.head _))) (fun q hq => List.mem_append_left _ (.tail _ (.tail _ hq)))) q hq)
    clear N8
    have hA0 : 2 * (X + many * dx) + 1 - (2 * (X + many * dx) + 1) = 2 * 0 := by k_extra "om"
    have hB0 : 2 * (Y + many * dy) + 1 - (2 * (Y + many * dy) + 1) = 2 * 0 := by k_extra "om"
    clear hA hB KL KP KS
    refine hideG fun Gzq kzq => ?_
    obtain ⟨xl, hxl⟩ : ∃ x, R.getLast? = some x := ⟨R.getLast hne0, List.getLast?_eq_some_getLast hne0⟩
    obtain ⟨⟨⟨y1, y2⟩, ⟨y3, y4⟩, ⟨y5, y6⟩, ⟨y7, y8⟩⟩, _⟩ := hpr' xl (List.mem_of_getLast? hxl)
    refine kzq ?_
    clear kzq Gzq
    have hxok : xl.ok := ⟨⟨y1, y2⟩, ⟨y3, y4⟩, ⟨y5, y6⟩, ⟨y7, y8⟩⟩
    refine hideG fun Gzq kzq => ?_
    obtain ⟨lo, vo, e, ilo, hpo⟩ := hord
    refine kzq ?_
    clear kzq Gzq
    subst e
    have hlast : ∃ y, vo.getLast? = some y ∧ OrdAt gg y xl := by
      have := hxl
      rw [List.getLast?_eq_getElem?] at this ⊢
      rw [← hpo.length] at this
      exact paired_get2 hpo _ _ this
    refine hideG fun Gzq kzq => ?_
    obtain ⟨yl, hyl, al, tl, vf, rfl, ial, ifour⟩ := hlast
    refine kzq ?_
    clear kzq Gzq
    have hxl' : (ordF 0 rows).getLast? = some xl := by rw [hR0]; exact hxl
    k_extra "S"
    (all_goals (try dsimp only)); (all_goals (try k_unfold)); (all_goals (try dsimp only))
    exact retM (by assumption) (by assumption) (fun kF kN => ret _ _ _ _ _ _ hb0 hb1 (by k_extra "sm") kF (news_pick kN (by k_mem)))
end
end
end Mine

namespace Mine
section
theorem sqr_lt {A R : Int} (h1 : 0 ≤ A) (h2 : A < R) : A * A + 0 * 0 < R * R := by
  have := Int.mul_lt_mul' (Int.le_of_lt h2) h2 h1 (by k_extra "om" : 0 < R)
  omega
section
variable {prog : Program} {w : World} {p : Program} {loose : List Str} {mean : ExcName → Option Value} {mg mb : Str → Option Value}
  {dp un : Nat} {gd : Option (List Code)} {cn : Str} {cs : Scope} {a : Addr} {ccd : Value} {cl : List (Str × Addr)} {outer : List Env} {A₀ : Around} {base h₀ : Heap} {L : Addr}
  {m : Str → Option Value} {news : List (Addr × Obj)} {s : Shared} {Q E : Value → Shared → Prop}
theorem rad_axis_spec {v vs vr vm : Value} {k : Kd} {rows : List Row} {R off X Y x y way far room : Int} {t1 t2 : Tok} (zB : Below A₀ base outer h₀) (zF : Fr h₀ L s.heap m) (zX : (hd.heap_39 w.params).In h₀) (zN : News h₀ L s.heap news) (zT : Top p loose mean mg mb h₀) (zk : cs.kind = .function) (hd : dp + 14 < recursionLimit) (hu : un + 280 < cLine) (hv : RadAt s.heap v vs vr vm k R off 0 (2 * X + 1) (2 * Y + 1)) (hfr : FracAt s.heap vr R 1) (hm : MatAt s.heap vm)
    (hst : StopsAt s.heap vs rows) (hr : ∀ x ∈ rows, x.ok ∧ 0 ≤ x.o ∧ x.o ≤ 8) (hn : rows ≠ []) (hn4 : rows.length ≤ 4)
    (b1 : 0 ≤ X ∧ X ≤ 6) (b2 : 0 ≤ Y ∧ Y ≤ 6) (bR : 4 ≤ R ∧ R ≤ 10) (bo : 0 ≤ off ∧ off ≤ 2) (bf : 1 ≤ far ∧ far ≤ 12)
    (hw : way = far ∧ room = R - off ∨ way = -far ∧ room = R + off) (hx : x - X = way) (hy : y - Y = 0)
    (ret : ∀ z t1 t2 t3 t4 s', Sm s s' → Fr h₀ L s'.heap m → News h₀ L s'.heap ((z, colO (colP rows (spr k far room) room) t1 t2 t3 t4) :: news) → Q (.ref z) s') :
    wpAny (model prog w) (ktrTop dp un gd cn cs L a ccd cl outer) (call (.ref 389) [v, .int x t1, .int y t2]) Q E s := by
  have hM := sqr_lt bo.1 (show off < R by k_extra "om")
  have q1 := mul_bd (x := R) (y := far) (a := 2 ^ 6) (b := 2 ^ 6) (by k_extra "om") (by k_extra "om")
  have q2 : 0 ≤ R * far := Int.mul_nonneg (by k_extra "om") (by k_extra "om")
  rcases hw with ⟨rfl, rfl⟩ | ⟨rfl, rfl⟩
  · exact rad_colour_spec (pp := way) (qq := 0) (K := R * way) (C := way) (D := R - off) zB zF zX zN zT zk hd hu hv hfr hm hst hr hn hn4 (by k_extra "om") (by k_extra "om") (by k_extra "om") (by k_extra "om") (by k_extra "om") (by k_extra "om") (by k_extra "om") hx hy (by k_extra "om")
      (by grind) (by k_extra "om") (by grind) (by k_extra "om") (by k_extra "om") ret
  · exact rad_colour_spec (pp := -far) (qq := 0) (K := R * far) (C := far) (D := R + off) zB zF zX zN zT zk hd hu hv hfr hm hst hr hn hn4 (by k_extra "om") (by k_extra "om") (by k_extra "om") (by k_extra "om") (by k_extra "om") (by k_extra "om") (by k_extra "om") hx hy (by k_extra "om")
      (by grind) (by k_extra "om") (by grind) (by k_extra "om") (by k_extra "om") ret
theorem rad_slant_spec {v vs vr vm : Value} {k : Kd} {R X Y x y : Int} {t1 t2 : Tok} (zB : Below A₀ base outer h₀) (zF : Fr h₀ L s.heap m) (zX : (hd.heap_39 w.params).In h₀) (zN : News h₀ L s.heap news) (zT : Top p loose mean mg mb h₀) (zk : cs.kind = .function) (hd : dp + 10 < recursionLimit) (hu : un + 200 < cLine) (hv : RadAt s.heap v vs vr vm k R 0 0 (2 * X + 1) (2 * Y + 1)) (hr : FracAt s.heap vr R 1) (hm : MatAt s.heap vm)
    (b1 : 0 ≤ X ∧ X ≤ 6) (b2 : 0 ≤ Y ∧ Y ≤ 6) (bR : 4 ≤ R ∧ R ≤ 10) (hx : x - X = 3) (hy : y - Y = -4)
    (ret : ∀ r u1 u2 s', Sm s s' → Fr h₀ L s'.heap m → News h₀ L s'.heap ((r, frO 5 R u1 u2) :: news) → Q (.ref r) s') :
    wpAny (model prog w) (ktrTop dp un gd cn cs L a ccd cl outer) (call (.ref 382) [v, .int x t1, .int y t2]) Q E s := by
  have hM := sqr_lt (Int.le_refl 0) (show 0 < R by k_extra "om")
  exact rad_share_spec (pp := 3) (qq := -4) (K := 5 * R) (C := 5) (D := R) zB zF zX zN zT zk hd hu hv hr hm (by k_extra "om") (by k_extra "om") (by k_extra "om") (by k_extra "om") (by k_extra "om") (by k_extra "om") (by k_extra "om") hx hy (by k_extra "om") (by grind) (by k_extra "om") (by grind) (by k_extra "om") ret
theorem rad_mid_spec {v vs vr vm : Value} {k : Kd} {R X Y : Int} {t1 t2 : Tok} (zB : Below A₀ base outer h₀) (zF : Fr h₀ L s.heap m) (zX : (hd.heap_39 w.params).In h₀) (zN : News h₀ L s.heap news) (zT : Top p loose mean mg mb h₀) (zk : cs.kind = .function) (hd : dp + 10 < recursionLimit) (hu : un + 200 < cLine) (hv : RadAt s.heap v vs vr vm k R 0 0 (2 * X + 1) (2 * Y + 1)) (hr : FracAt s.heap vr R 1) (hm : MatAt s.heap vm)
    (b1 : 0 ≤ X ∧ X ≤ 6) (b2 : 0 ≤ Y ∧ Y ≤ 6) (bR : 4 ≤ R ∧ R ≤ 10)
    (ret : ∀ r u1 u2 s', Sm s s' → Fr h₀ L s'.heap m → News h₀ L s'.heap ((r, frO 0 1 u1 u2) :: news) → Q (.ref r) s') :
    wpAny (model prog w) (ktrTop dp un gd cn cs L a ccd cl outer) (call (.ref 382) [v, .int X t1, .int Y t2]) Q E s := by
  have hM := sqr_lt (Int.le_refl 0) (show 0 < R by k_extra "om")
  exact rad_share_spec (pp := 0) (qq := 0) (K := 0) (C := 0) (D := 1) zB zF zX zN zT zk hd hu hv hr hm (by k_extra "om") (by k_extra "om") (by k_extra "om") (by k_extra "om") (by k_extra "om") (by k_extra "om") (by k_extra "om") (by k_extra "om") (by k_extra "om") (by k_extra "om") (by k_extra "om") (by k_extra "om") (by k_extra "om") (by k_extra "om") ret
end
end
end Mine

namespace Mine
section
theorem rl_LawH_1 : True := by
  k_with "binaryOp Mult int int" => first | (refine' my_mulL ?qzq ?_; (case qzq => k_dflt k_extra "om"); k_whole) | (refine' my_mulR ?qzq ?_; (case qzq => k_dflt k_extra "om"); k_whole)
  trivial



theorem menu_rad {x : Value} {t1 t2 t3 : Tok} (h : x ∈ [Value.int 4 t1, .int 5 t2, .int 10 t3]) : ∃ c t, x = .int c t ∧ 4 ≤ c ∧ c ≤ 10 := by
  simp only [List.mem_cons, List.not_mem_nil, or_false] at h
  rcases h with rfl | rfl | rfl <;> exact ⟨_, _, rfl, by decide, by decide⟩
theorem spr_b2 {k : Kd} {T b : Int} (h1 : 0 < b) (h2 : b < 2 ^ 10) : -(2 ^ 10) < spr k T b ∧ spr k T b < 2 ^ 10 := by
  have := spr_bd (k := k) (T := T) h1
  omega
theorem radA {x o : Int} : 2 * (x + o) + 1 - (2 * x + 1) = 2 * o := by k_extra "om"
theorem radA0 {x : Int} : 2 * x + 1 - (2 * x + 1) = 2 * 0 := by k_extra "om"
section
variable {prog : Program} {w : World} {p : Program} {loose : List Str} {mean : ExcName → Option Value} {mg mb : Str → Option Value}
  {dp un : Nat} {gd : Option (List Code)} {cn : Str} {cs : Scope} {a : Addr} {ccd : Value} {cl : List (Str × Addr)} {outer : List Env} {A₀ : Around} {base h₀ : Heap} {L : Addr}
  {m : Str → Option Value} {news : List (Addr × Obj)} {s : Shared} {Q E : Value → Shared → Prop}
theorem rl_LawH_4 : True := by
  k_with "call ref" => (k_here; (with_reducible show wpAny _ _ (call (Value.ref 487) _) _ _ _); k_dflt (refine' law_one_spec ?cBzq ?cFzq ?cXzq ?cNzq ?cTzq ?ckzq ?cdzq ?cuzq ?p0zq ?p1zq ?p2zq ?p3zq ?p4zq ?p5zq ?p6zq ?_; (case cBzq => k_asm); (case cFzq => k_asm); (case cXzq => k_asm); (case cNzq => k_asm); (case cTzq => k_asm); (case ckzq => first | rfl | assumption); (case cdzq => k_extra "om"); (case cuzq => k_extra "om"); (case p0zq => (first | exact Split.head | (apply Split.tail; first | exact Split.head | (apply Split.tail; first | exact Split.head | (apply Split.tail; first | exact Split.head | (repeat (first | exact Split.head | apply Split.tail))))))); (case p1zq => (repeat' (first | exact Apart.nil | assumption | refine Apart.append ?_ ?_ | refine Apart.cons ?_ ?_ | exact ne_of_cls (by k_asm) (by k_mem) (by k_mem) (by intro hq; exact absurd (Value.type.inj hq) (by decide)) | exact ne_of_data (by k_asm) (by k_mem) (by k_mem) (by intro hq; cases hq)))); (case p2zq => assumption); (case p3zq => assumption); (case p4zq => (exact News.isList (by k_asm) (by k_mem))); (case p5zq => (exact ne_of_data (by k_asm) (by k_mem) (by k_mem) (by intro hq; cases hq))); (case p6zq => (constructor <;> (simp only [List.length_cons, List.length_nil]; omega))); k_whole; intro x9 z09 z19 v19 v29 n9 s9 b91 b92 b93 S9 F9 N9; (obtain ⟨c9, t9, e9, c91, c92⟩ := menu_rad b93; subst e9; clear b93); (revert z09 z19 v19 v29 n9 s9 b91 b92 S9 F9 N9 c9 t9 c91 c92; intros); (try k_sweep)))
  k_with "call ref" => (k_here; (with_reducible show wpAny _ _ (call (Value.ref 293) _) _ _ _); k_dflt (refine' mkstops_spec ?cBzq ?cFzq ?cXzq ?cNzq ?cTzq ?ckzq ?cdzq ?cuzq ?p0zq ?p1zq ?p2zq ?p3zq ?_; (case cBzq => k_asm); (case cFzq => k_asm); (case cXzq => k_asm); (case cNzq => k_asm); (case cTzq => k_asm); (case ckzq => first | rfl | assumption); (case cdzq => k_extra "om"); (case cuzq => k_extra "om"); (case p0zq => (exact base_keeps (by assumption) (by k_asm))); (case p1zq => assumption); (case p2zq => assumption); (case p3zq => k_extra "om"); k_whole; intro v9 own9 s9 H9 G9 S9 F9 N9; (have K9 := Known.ofFb F9 (by assumption) (by assumption) H9); clear G9; (revert v9 own9 s9 H9 S9 F9 N9 K9; intros); (try k_sweep)))
  k_with "call ref" => (k_here; (with_reducible show wpAny _ _ (call (Value.ref 466) _) _ _ _); k_dflt (refine' identity_spec ?cBzq ?cFzq ?cXzq ?cNzq ?cTzq ?ckzq ?cdzq ?cuzq  ?_; (case cBzq => k_asm); (case cFzq => k_asm); (case cXzq => k_asm); (case cNzq => k_asm); (case cTzq => k_asm); (case ckzq => first | rfl | assumption); (case cdzq => k_extra "om"); (case cuzq => k_extra "om");  k_whole; intro v9 own9 s9 H9 G9 S9 F9 N9; (have K9 := Known.ofF F9 (by assumption) H9); clear G9; (revert v9 own9 s9 H9 S9 F9 N9 K9; intros); (try k_sweep)))
  k_with "call ref" => (k_here; (with_reducible show wpAny _ _ (call (Value.ref 392) _) _ _ _); k_dflt (refine' mkradial_spec ?cBzq ?cFzq ?cXzq ?cNzq ?cTzq ?ckzq ?cdzq ?cuzq ?p0zq ?p1zq ?p2zq ?p3zq ?p4zq ?p5zq ?p6zq ?p7zq ?p8zq ?p9zq ?p10zq ?p11zq ?p12zq ?_; (case cBzq => k_asm); (case cFzq => k_asm); (case cXzq => k_asm); (case cNzq => k_asm); (case cTzq => k_asm); (case ckzq => first | rfl | assumption); (case cdzq => k_extra "om"); (case cuzq => k_extra "om"); (case p0zq => (first | exact PtAt.keeps (by with_reducible assumption) (Fr.keep (by k_asm)) | exact pt_news (by k_asm) (by k_mem) (by k_mem) (by k_mem))); (case p1zq => (first | exact PtAt.keeps (by with_reducible assumption) (Fr.keep (by k_asm)) | exact pt_news (by k_asm) (by k_mem) (by k_mem) (by k_mem))); (case p2zq => (first | exact FracAt.keeps (by with_reducible assumption) (Fr.keep (by k_asm)) | exact frac_news (by k_asm) (by k_mem) | exact zero_at (Frag.In.keeps (by with_reducible assumption) (Fr.keep (by with_reducible assumption))) | exact one_at (Frag.In.keeps (by with_reducible assumption) (Fr.keep (by with_reducible assumption))) | assumption)); (case p3zq => (first | (with_reducible exact radA0) | (with_reducible exact radA))); (case p4zq => (with_reducible exact radA0)); (case p5zq => k_extra "om"); (case p6zq => k_extra "om"); (case p7zq => k_extra "om"); (case p8zq => k_extra "om"); (case p9zq => k_extra "om"); (case p10zq => k_extra "om"); (case p11zq => k_extra "om"); (case p12zq => (exact .inr ⟨by omega, sqr_lt (by omega) (by omega)⟩)); k_whole; intro v9 own9 s9 H9 G9 S9 F9 N9; (have K9 := Known.ofF F9 (by assumption) H9); clear G9; (revert v9 own9 s9 H9 S9 F9 N9 K9; intros); (try k_sweep)))
  k_with "call ref" => (k_here; (with_reducible show wpAny _ _ (call (Value.ref 108) _) _ _ _); k_dflt (refine' fraction_spec ?cBzq ?cFzq ?cXzq ?cNzq ?cTzq ?ckzq ?cdzq ?cuzq ?p0zq ?p1zq ?p2zq ?_; (case cBzq => k_asm); (case cFzq => k_asm); (case cXzq => k_asm); (case cNzq => k_asm); (case cTzq => k_asm); (case ckzq => first | rfl | assumption); (case cdzq => k_extra "om"); (case cuzq => k_extra "om"); (case p0zq => k_extra "om"); (case p1zq => k_extra "om"); (case p2zq => k_extra "om"); k_whole; intro _ _ _ _ _ _ _; (try k_sweep)))
  k_with "call ref" => (k_here; (with_reducible show wpAny _ _ (call (Value.ref 108) _) _ _ _); k_dflt (refine' fraction1_spec ?cBzq ?cFzq ?cXzq ?cNzq ?cTzq ?ckzq ?cdzq ?cuzq ?p0zq ?_; (case cBzq => k_asm); (case cFzq => k_asm); (case cXzq => k_asm); (case cNzq => k_asm); (case cTzq => k_asm); (case ckzq => first | rfl | assumption); (case cdzq => k_extra "om"); (case cuzq => k_extra "om"); (case p0zq => k_extra "om"); k_whole; intro _ _ _ _ _ _ _; (try k_sweep)))
  k_with "call ref" => (k_here; (with_reducible show wpAny _ _ (call (Value.ref 389) _) _ _ _); k_dflt (refine' rad_axis_spec ?cBzq ?cFzq ?cXzq ?cNzq ?cTzq ?ckzq ?cdzq ?cuzq ?p0zq ?p1zq ?p2zq ?p3zq ?p4zq ?p5zq ?p6zq ?p7zq ?p8zq ?p9zq ?p10zq ?p11zq ?p12zq ?p13zq ?p14zq ?_; (case cBzq => k_asm); (case cFzq => k_asm); (case cXzq => k_asm); (case cNzq => k_asm); (case cTzq => k_asm); (case ckzq => first | rfl | assumption); (case cdzq => k_extra "om"); (case cuzq => k_extra "om"); (case p0zq => (exact known_rad (by assumption) (by k_asm) (by k_asm) (by (intro q hq; simp only [List.mem_cons, List.mem_append, hq, or_true, true_or])))); (case p1zq => (exact known_frac (by assumption) (by k_asm) (by k_asm) (by (intro q hq; simp only [List.mem_cons, List.mem_append, hq, or_true, true_or])))); (case p2zq => (exact known_mat (by assumption) (by k_asm) (by k_asm) (by (intro q hq; simp only [List.mem_cons, List.mem_append, hq, or_true, true_or])))); (case p3zq => (exact known_stops (by assumption) (by k_asm) (by k_asm) (by (intro q hq; simp only [List.mem_cons, List.mem_append, hq, or_true, true_or])))); (case p4zq => assumption); (case p5zq => assumption); (case p6zq => assumption); (case p7zq => k_extra "om"); (case p8zq => k_extra "om"); (case p9zq => k_extra "om"); (case p10zq => k_extra "om"); (case p11zq => k_extra "om"); (case p12zq => assumption); (case p13zq => k_extra "om"); (case p14zq => k_extra "om"); k_whole; intro _ _ _ _ _ _ _ _ _; (try k_sweep)))
  k_with "call ref" => (k_here; (with_reducible show wpAny _ _ (call (Value.ref 382) _) _ _ _); k_dflt (refine' rad_slant_spec ?cBzq ?cFzq ?cXzq ?cNzq ?cTzq ?ckzq ?cdzq ?cuzq ?p0zq ?p1zq ?p2zq ?p3zq ?p4zq ?p5zq ?p6zq ?p7zq ?_; (case cBzq => k_asm); (case cFzq => k_asm); (case cXzq => k_asm); (case cNzq => k_asm); (case cTzq => k_asm); (case ckzq => first | rfl | assumption); (case cdzq => k_extra "om"); (case cuzq => k_extra "om"); (case p0zq => (exact known_rad (by assumption) (by k_asm) (by k_asm) (by (intro q hq; simp only [List.mem_cons, List.mem_append, hq, or_true, true_or])))); (case p1zq => (first | exact FracAt.keeps (by with_reducible assumption) (Fr.keep (by k_asm)) | exact frac_news (by k_asm) (by k_mem) | exact zero_at (Frag.In.keeps (by with_reducible assumption) (Fr.keep (by with_reducible assumption))) | exact one_at (Frag.In.keeps (by with_reducible assumption) (Fr.keep (by with_reducible assumption))) | assumption)); (case p2zq => (exact known_mat (by assumption) (by k_asm) (by k_asm) (by (intro q hq; simp only [List.mem_cons, List.mem_append, hq, or_true, true_or])))); (case p3zq => k_extra "om"); (case p4zq => k_extra "om"); (case p5zq => k_extra "om"); (case p6zq => k_extra "om"); (case p7zq => k_extra "om"); k_whole; intro _ _ _ _ _ _ _; (try k_sweep)))
  k_with "call ref" => (k_here; (with_reducible show wpAny _ _ (call (Value.ref 382) _) _ _ _); k_dflt (refine' rad_mid_spec ?cBzq ?cFzq ?cXzq ?cNzq ?cTzq ?ckzq ?cdzq ?cuzq ?p0zq ?p1zq ?p2zq ?p3zq ?p4zq ?p5zq ?_; (case cBzq => k_asm); (case cFzq => k_asm); (case cXzq => k_asm); (case cNzq => k_asm); (case cTzq => k_asm); (case ckzq => first | rfl | assumption); (case cdzq => k_extra "om"); (case cuzq => k_extra "om"); (case p0zq => (exact known_rad (by assumption) (by k_asm) (by k_asm) (by (intro q hq; simp only [List.mem_cons, List.mem_append, hq, or_true, true_or])))); (case p1zq => (first | exact FracAt.keeps (by with_reducible assumption) (Fr.keep (by k_asm)) | exact frac_news (by k_asm) (by k_mem) | exact zero_at (Frag.In.keeps (by with_reducible assumption) (Fr.keep (by with_reducible assumption))) | exact one_at (Frag.In.keeps (by with_reducible assumption) (Fr.keep (by with_reducible assumption))) | assumption)); (case p2zq => (exact known_mat (by assumption) (by k_asm) (by k_asm) (by (intro q hq; simp only [List.mem_cons, List.mem_append, hq, or_true, true_or])))); (case p3zq => k_extra "om"); (case p4zq => k_extra "om"); (case p5zq => k_extra "om"); k_whole; intro _ _ _ _ _ _ _; (try k_sweep)))
  k_with "call ref" => (k_here; (with_reducible show wpAny _ _ (call (Value.ref 516) _) _ _ _); k_dflt (refine' law_colour_spec ?cBzq ?cFzq ?cXzq ?cNzq ?cTzq ?ckzq ?cdzq ?cuzq ?p0zq ?p1zq ?p2zq ?p3zq ?p4zq ?p5zq ?p6zq ?_; (case cBzq => k_asm); (case cFzq => k_asm); (case cXzq => k_asm); (case cNzq => k_asm); (case cTzq => k_asm); (case ckzq => first | rfl | assumption); (case cdzq => k_extra "om"); (case cuzq => k_extra "om"); (case p0zq => (exact OrdsAt.keeps (by assumption) (Fr.keep (by k_asm)))); (case p1zq => assumption); (case p2zq => assumption); (case p3zq => assumption); (case p4zq => assumption); (case p5zq => k_extra "om"); (case p6zq => (exact spr_b2 (by omega) (by omega))); k_whole; intro _ _ _ _ _ _ _ _ _; (try k_sweep)))
  k_with "compareOp NotEq ref ref" => (k_here; k_dflt (refine' ne_four (by k_asm) (by k_mem) (by k_mem) (by (first | exact units_lim (by with_reducible assumption) (by rfl) | ktr_units)) ?_))
  k_with "compareOp Eq ref ref" => (k_here; k_dflt (refine' eq_fr (by k_asm) (by k_mem) (by k_mem) (by (first | exact units_lim (by with_reducible assumption) (by rfl) | ktr_units)) ?_))
  k_with "getMethod" => (k_here; k_dflt (refine' method_rad ?Kzq ?Fzq ?Xzq ?nzq ?gzq ?fzq ?tzq ?_; (case Kzq => exact known_rad (by assumption) (by k_asm) (by k_asm) (by (intro q hq; simp only [List.mem_cons, List.mem_append, hq, or_true, true_or]))); (case Fzq => k_asm); (case Xzq => k_asm); (case nzq => first | exact fun es h => h.1 | exact fun es h => h.2.1); (case gzq => k_is); (case fzq => k_is); (case tzq => k_is); k_whole))
  trivial
theorem law_round_right_spec {vl vt : Value} {k : Kd} {tk0 : Tok} {rows : List Row} {bs : List (Addr × Obj)} {src : Addr} {s0 s1 : Int} {u1 u2 : Tok} {n : Nat} {rest : List (Addr × Obj)} (zB : Below A₀ base outer h₀) (zF : Fr h₀ L s.heap m) (zX : (hd.heap_39 w.params).In h₀) (zN : News h₀ L s.heap news) (zT : Top p loose mean mg mb h₀) (zk : cs.kind = .function) (hd : dp + 16 < recursionLimit) (hu : un + 320 < cLine) (hsp : Split news src (listOf #[.int s0 u1, .int s1 u2] n) rest) (hdis : Apart src rest) (h0 : 0 ≤ s0) (h1 : 0 ≤ s1 ∧ s1 < 2147483647) (hbs : ∀ q ∈ bs, s.heap.get? q.1 = some q.2) (hap : Apart src bs) (ht : RowsIn w bs vt rows) (hl : Holds w bs (fun h => OrdsAt h vl (ordF 0 rows)))
    (hr : ∀ x ∈ rows, x.ok ∧ -1 ≤ x.o ∧ x.o ≤ 9) (hn : 0 < rows.length ∧ rows.length ≤ 4)
    (ret : ∀ z0 z1 v1 v2 n' s', 0 ≤ z0 → (0 ≤ z1 ∧ z1 < 2147483647) → Sm s s' → Fr h₀ L s'.heap m → News h₀ L s'.heap ((src, listOf #[.int z0 v1, .int z1 v2] n') :: rest) → Q (.bool true) s') :
    wpAny (model prog w) (ktrTop dp un gd cn cs L a ccd cl outer) (call (.ref 537) [.ref src, vl, vt, .str k.str tk0]) Q E s := by
  k_dflt (refine' enterM (mu := [(src, listOf #[.int s0 u1, .int s1 u2] n)]) (binds := [(Str.ofString "source", .ref src), (Str.ofString "stops", vl), (Str.ofString "told", vt), (Str.ofString "kind", .str k.str tk0)]) zB zF zX (Split.news hsp zN) (fun q hq hm => hdis q hq (List.mem_singleton.mp hm)) zT zk ?k6 ?k7 ?k8 ?k9 ?kB ?c2 ?c3 ?c4 ?c5 ?_; (case k6 => k_is); (case k7 => k_is); (case k8 => k_extra "om"); (case k9 => first | exact BindsTo.of_eq rfl | exact binds_K (Frag.In.keeps zX zF.keep) rfl (by k_is) rfl rfl rfl); (case c5 => decide); (case kB => exact locs rfl); (case c2 => exact rfl); (case c3 => exact rfl); (case c4 => exact rfl); k_whole; intro gg gL gs gS gG gF gN gB gX gT gA gE; (try dsimp only); (try k_fold))
  have hbg : ∀ q ∈ bs, gg.get? q.1 = some q.2 := fun q hq => gG _ _ (hbs q hq) (by simpa using hap q hq)
  k_extra "S"
  rename News gg _ _ _ => N6
  rename Fr gg _ _ _ => F6
  rename_i X uX _ _ _ _ _ _ _ _ bX _ Y uY _ _ _ _ _ _ _ _ bY _ _ _ _ z0 z1 v0 v1 nn _ hb0 hb1 _ R uR bR1 bR2 _ _ _ _ _ _ _ _ _ _ off uo _ _ _ _ _ _ _ _ bo _ fa uf y0 y1 w0 w1 ns _ c0 c1 bf _ _ _ _ _ _ _ _ _ vS oS _ HS _ KSx _ _ ap xp yp f1 f2 f3 f4 ar f5 f6 _ _ _ _ aq xq yq g1 g2 g3 g4 vM oM _ HM _ AM vR oR _ HR _ AR h6 _
  refine hideG fun Gzq kzq => ?_
  obtain ⟨led, far, uf, N7, bf', hsrc, KR, KM, KS, KF, mm, F7, k1, k2, k3, k4, k5, k6, k7, k8, k9⟩ : ∃ led far uf, News gg gL h6.heap led ∧ (1 ≤ far ∧ far ≤ 12) ∧ (src, listOf #[.int y0 w0, .int y1 w1] ns) ∈ led ∧
      Known gg gL led (fun h => RadAt h vR vS (.ref ar) vM k R off 0 (2 * (X + off) + 1) (2 * Y + 1)) ∧ Known gg gL led (fun h => MatAt h vM) ∧ Known gg gL led (fun h => StopsAt h vS (ordF 0 rows)) ∧ Known gg gL led (fun h => FracAt h (.ref ar) R 1) ∧
      ∃ mm, Fr gg gL h6.heap mm ∧ mm (Str.ofString "away") = some vR ∧ mm (Str.ofString "off") = some (.int off uo) ∧ mm (Str.ofString "far") = some (.int far uf) ∧ mm (Str.ofString "x") = some (.int X uX) ∧ mm (Str.ofString "y") = some (.int Y uY) ∧
        mm (Str.ofString "radius") = some (.int R uR) ∧ mm (Str.ofString "stops") = some vl ∧ mm (Str.ofString "told") = some vt ∧ mm (Str.ofString "kind") = some (.str k.str tk0) := by
    refine ⟨_, _, _, N6, (by k_extra "om" : 1 ≤ 1 + fa ∧ 1 + fa ≤ 12), by k_mem, ?_, ?_, ?_, ?_, _, F6, rfl, rfl, rfl, rfl, rfl, rfl, rfl, rfl, rfl⟩
    · exact (Known.of0 HR gX).more fun q hq => by simp [hq]
    · exact (Known.of0 HM gX).more fun q hq => by simp [hq]
    · exact (Known.of HS gX hbg).more fun q hq => by simp only [List.mem_cons, List.mem_append, hq, or_true, true_or]
    · exact fun h m l F N hs => ⟨ar, f5, f6, rfl, News.isTup N (hs _ (by k_mem))⟩
  refine kzq ?_
  clear kzq Gzq
  clear N6 F6 HS HM AM HR AR KSx bf
  refine hideG fun Gzq kzq => ?_
  obtain ⟨hpr, hso⟩ := ordF_props 0 rows (by k_extra "om") (fun x hx => (hr x hx).1)
  refine kzq ?_
  clear kzq Gzq
  have hpr' : ∀ x ∈ ordF 0 rows, x.ok ∧ 0 ≤ x.o ∧ x.o ≤ 8 := hpr
  have hlen := ordF_len 0 rows
  have hne0 : ordF 0 rows ≠ [] := fun h => by rw [h] at hlen; simp at hlen; omega
  have hle4 : (ordF 0 rows).length ≤ 4 := by k_extra "om"
  have hord : OrdsAt gg vl (ordF 0 rows) := hl gg gX hbg
  clear hpr
  generalize hR0 : ordF 0 rows = RR at *
  refine wpAny_For ?_
  k_extra "S"
  rename News gg _ _ _ => N8
  rename Fr gg _ _ _ => F8
  rename_i ta _ _ tb _ _ lst h8 _
  refine hideG fun Gzq kzq => ?_
  obtain ⟨p1, p2, p3, p4, N8⟩ : ∃ p1 p2 p3 p4, News gg gL h8.heap ((lst, listOf #[.ref ta, .ref tb] 0) :: (tb, ({ cls := .type "tuple", data := .seq #[.int (-far) p3, .int (R + off) p4] } : Obj)) :: (ta, { cls := .type "tuple", data := .seq #[.int far p1, .int (R - off) p2] }) :: led) := ⟨_, _, _, _, N8⟩
  refine kzq ?_
  clear kzq Gzq
  generalize hpin : (lst, listOf #[.ref ta, .ref tb] 0) :: (tb, ({ cls := .type "tuple", data := .seq #[.int (-far) p3, .int (R + off) p4] } : Obj)) :: (ta, { cls := .type "tuple", data := .seq #[.int far p1, .int (R - off) p2] }) :: led = pin at *
  have hm1 : (lst, listOf #[.ref ta, .ref tb] 0) ∈ pin := hpin ▸ .head _
  have hm2 : (ta, ({ cls := .type "tuple", data := .seq #[.int far p1, .int (R - off) p2] } : Obj)) ∈ pin := hpin ▸ .tail _ (.tail _ (.head _))
  have hm3 : (tb, ({ cls := .type "tuple", data := .seq #[.int (-far) p3, .int (R + off) p4] } : Obj)) ∈ pin := hpin ▸ .tail _ (.head _)
  have hs : ∀ q ∈ led, q ∈ pin := hpin ▸ fun q hq => .tail _ (.tail _ (.tail _ hq))
  clear hpin
  replace KR := KR.more hs
  replace KM := KM.more hs
  replace KS := KS.more hs
  replace KF := KF.more hs
  have hsrc := hs _ hsrc
  clear hs
  refine for_list (l := lst) (vs := [.ref ta, .ref tb]) (pin := pin) (nw := []) rfl (N8.isList hm1) (.inr ⟨_, hm1⟩)
    (fun i m₁ nw => nw = [] ∧ (m₁ (Str.ofString "away") = some vR ∧ m₁ (Str.ofString "off") = some (.int off uo) ∧ m₁ (Str.ofString "far") = some (.int far uf) ∧ m₁ (Str.ofString "x") = some (.int X uX) ∧ m₁ (Str.ofString "y") = some (.int Y uY) ∧
        m₁ (Str.ofString "radius") = some (.int R uR) ∧ m₁ (Str.ofString "stops") = some vl ∧ m₁ (Str.ofString "told") = some vt ∧ m₁ (Str.ofString "kind") = some (.str k.str tk0)))
    F8 (by rw [List.append_nil]; exact N8) ⟨rfl, k1, k2, k3, k4, k5, k6, k7, k8, k9⟩ ?_ ?_
  · intro I i v hlt hv m₁ nw₁ s1 oI hJ hne ⟨fI, hoI⟩ S1 F N
    refine hideG fun Gzq kzq => ?_
    obtain ⟨rfl, k1, k2, k3, k4, k5, k6, k7, k8, k9⟩ := hJ
    refine kzq ?_
    clear kzq Gzq
    clear F8 N8
    refine hideG fun Gzq kzq => ?_
    obtain ⟨tv, way, room, q1, q2, rfl, hm, hw⟩ : ∃ tv way room q1 q2, v = .ref tv ∧ (tv, ({ cls := .type "tuple", data := .seq #[.int way q1, .int room q2] } : Obj)) ∈ pin ∧ (way = far ∧ room = R - off ∨ way = -far ∧ room = R + off) := by
      have := List.mem_of_getElem? hv
      simp only [List.mem_cons, List.not_mem_nil, or_false] at this
      rcases this with rfl | rfl
      · exact ⟨_, _, _, _, _, rfl, hm2, .inl ⟨rfl, rfl⟩⟩
      · exact ⟨_, _, _, _, _, rfl, hm3, .inr ⟨rfl, rfl⟩⟩
    refine kzq ?_
    clear kzq Gzq
    replace N : News gg gL s1.heap ((I, oI) :: (tv, ({ cls := .type "tuple", data := .seq #[.int way q1, .int room q2] } : Obj)) :: pin) := fun q hq => N q (by
      rw [List.append_nil]
      rcases List.mem_cons.mp hq with rfl | hq
      · exact .head _
      · rcases List.mem_cons.mp hq with rfl | hq
        · exact .tail _ hm
        · exact .tail _ hq)
    clear hm hm2 hm3 hv hne hlt
    have hroom : 0 < room ∧ room < 2 ^ 6 := by k_extra "om"
    k_extra "S"
    refine' ForOn.mk _ [] _ (by k_extra "sm") ?z1 ?z2 ?z3 ?z4 ?z5 ?z6 ⟨rfl, ?z9⟩
    case z1 => assumption
    case z2 => assumption
    case z3 => k_mem
    case z4 => exact fun p hp => by simp only [List.mem_cons, hp, or_true]
    case z5 => exact fun _ h => nomatch h
    case z6 => exact fun _ h => nomatch h
    case z9 => exact ⟨k1, k2, k3, k4, k5, k6, k7, k8, k9⟩
  · intro m₁ nw₁ s1 hJ S1 F N
    refine hideG fun Gzq kzq => ?_
    obtain ⟨rfl, k1, k2, k3, k4, k5, k6, k7, k8, k9⟩ := hJ
    refine kzq ?_
    clear kzq Gzq
    clear F8 N8 KR
    rw [List.append_nil] at N
    k_extra "S"
    (all_goals (try dsimp only)); (all_goals (try k_unfold)); (all_goals (try dsimp only))
    exact retM (by assumption) (by assumption) (fun kF kN => ret y0 y1 w0 w1 ns _ c0 c1 (by k_extra "sm") kF (news_pick kN (by simp only [List.mem_cons, List.mem_append, hsrc, or_true, true_or])))
end
end
end Mine

namespace Mine
section
theorem rl_Exc4_1 : True := by
  k_with "eval Name" => (k_here; k_dflt (refine' nameX_L ?Fzq ?vzq ?_ ?azq ?bzq; (case Fzq => k_asm); (case azq => rfl); (case bzq => rfl); (case vzq => first | rfl | assumption); k_whole))
  trivial
section
variable {prog : Program} {w : World} {K : Frag} {p : Program} {loose : List Str} {mean : ExcName → Option Value} {mg mb : Str → Option Value}
  {dp un : Nat} {gd : Option (List Code)} {cn : Str} {cs : Scope} {a : Addr} {ccd : Value} {cl : List (Str × Addr)} {outer : List Env} {A₀ : Around} {base h₀ : Heap} {L : Addr}
  {m : Str → Option Value} {news : List (Addr × Obj)} {s : Shared} {Q E : Value → Shared → Prop}
  {name qual : Str} {params : Arguments} {body : List Stmt} {scope : Scope} {dV kV doc pm cdv ct oc : Value} {an od : Option Addr} {osl : Array (Option Value)} {f C : Addr} {vs : List Value}
/-- a class called whose __init__ may raise -/
theorem makeE {binds : Addr → List (Str × Value)} (B : Below A₀ base outer h₀) (F : Fr h₀ L s.heap m) (X : K.In h₀) (N : News h₀ L s.heap news) (T : Top p loose mean mg mb h₀)
    (hk : cs.kind = .function) (hm : makesIn K C = true) (hi : findIn K (.ref C) "__init__" = some (some (.ref f))) (hf : isFn K (.ref f) = true)
    (ho : K.lookup f = some ⟨oc, od, .func (fnOf name qual params body scope dV kV doc pm an cdv ct), osl⟩) (hcd : codeIn K cdv qual = true) (hroom : dp + 1 < recursionLimit)
    (hbind : ∀ x (s' : Shared), K.In s'.heap → BindsTo s' (fnOf name qual params body scope dV kV doc pm an cdv ct) ⟨.ref x :: vs, []⟩ (binds x)) (hloc : ∀ x, ∀ y ∈ binds x, scope.names.lookup y.1 = some .local)
    (hco : scope.isCoroutine = false) (hgen : scope.isGenerator = false) (hks : scope.kind = .function) (hcell : ∀ x ∈ scope.names, x.2 ≠ .cell)
    (h : ∀ g L' (s₁ : Shared) x dx, Sm s s₁ → (∀ b o, s.heap.get? b = some o → g.get? b = some o) → Fr h₀ L g m → Fr g L' s₁.heap (fun y => (binds x).reverse.lookup y) → News g L' s₁.heap [(x, instObj C dx), (dx, dictOf [] 0)] →
      Below (ktrTop (dp + 1) (un + 1) gd cn cs L a ccd cl outer) base (envX cn cs L a ccd cl :: outer) g → K.In g → Top p loose mean mg mb g →
      let gA : Around := ktrTop (dp + 2) (un + 4) gd qual scope L' f cdv [] (envX cn cs L a ccd cl :: outer); let gE : Env := envOf qual scope L' f cdv; wpAny (model prog w) gA (execs body gE)
        (fun _ _ => False) (ExcM base g L' (envOf qual scope L' f cdv) (envX cn cs L a ccd cl :: outer) E) s₁) :
    wpAny (model prog w) (ktrTop dp un gd cn cs L a ccd cl outer) (call (.ref C) vs) Q E s := by
  obtain ⟨hh, gs, dr, tk₀, os⟩ := s
  have X' : K.In hh := X.keeps F.keep
  refine wpAny_call (make_core (makes_of X' hm) (looks_findIn X' hi) (fun self => bind_fn X' self (beq_iff_eq.mp hf)) (.inl rfl) ?_)
  have F1 : Fr h₀ L ((hh.push emptyDict).push (instObj C hh.objs.size)) m := (F.push _).push _
  have N1 : News h₀ L ((hh.push emptyDict).push (instObj C hh.objs.size)) ((hh.objs.size + 1, instObj C hh.objs.size) :: (hh.objs.size, emptyDict) :: news) := by
    have := (N.push F emptyDict).push (F.push _) (instObj C hh.objs.size)
    rwa [Heap.size_push] at this
  have hs1 : ∀ b o, hh.get? b = some o → ((hh.push emptyDict).push (instObj C hh.objs.size)).get? b = some o := fun b o e => Heap.get?_push_of_some _ (Heap.get?_push_of_some _ e)
  rw [under_make]
  refine code_defG (A₀ := A₀) (s := ⟨(hh.push emptyDict).push (instObj C hh.objs.size), gs, dr, tk₀, os⟩) (news := [(hh.objs.size + 1, instObj C hh.objs.size), (hh.objs.size, dictOf [] 0)]) B F1 X (fun q hq => N1 q ?_) T rfl rfl hk ho hcd hroom (hbind _ _ (X.keeps F1.keep)) (hloc _) ?_ hco hgen hks hcell
  · rcases List.mem_cons.mp hq with rfl | hq
    · exact .head _
    · exact .tail _ (by rw [List.mem_singleton.mp hq]; exact .head _)
  intro g L' h₁ FG F' N' B' X'' T' G
  have G0 : ∀ b o, hh.get? b = some o → g.get? b = some o := fun b o e => by
    refine G b o (hs1 b o e) fun hm => ?_
    have h3 : b < hh.objs.size := Heap.lt_size e
    rcases List.mem_cons.mp hm with h4 | h4
    · rw [show b = hh.objs.size + 1 from h4] at h3
      exact Nat.lt_irrefl _ (Nat.lt_of_le_of_lt (Nat.le_succ hh.objs.size) h3)
    · rw [show b = hh.objs.size from List.mem_singleton.mp h4] at h3
      exact Nat.lt_irrefl _ h3
  exact wpAny_mono (h g L' _ (hh.objs.size + 1) hh.objs.size ⟨rfl, rfl⟩ G0 FG F' N' B' X'' T') (fun fl s' hr => hr.elim) (fun ev s' x => excM_leave B' hks x)
end
section
variable {prog : Program} {w : World} {p : Program} {loose : List Str} {mean : ExcName → Option Value} {mg mb : Str → Option Value}
  {dp un : Nat} {gd : Option (List Code)} {cn : Str} {cs : Scope} {a : Addr} {ccd : Value} {cl : List (Str × Addr)} {outer : List Env} {A₀ : Around} {base h₀ : Heap} {L : Addr}
  {m : Str → Option Value} {news : List (Addr × Obj)} {s : Shared} {Q E : Value → Shared → Prop}
theorem rl_Exc4_2 : True := by
  k_with "call ref" => (k_here; (with_reducible show wpAny _ _ (call (Value.ref 193) _) _ _ _); k_dflt (refine' check_none_raise ?cBzq ?cFzq ?cXzq ?cNzq ?cTzq ?ckzq ?cdzq ?cuzq ?_; (case cBzq => k_asm); (case cFzq => k_asm); (case cXzq => k_asm); (case cNzq => k_asm); (case cTzq => k_asm); (case ckzq => first | rfl | assumption); (case cdzq => omega); (case cuzq => omega); k_whole; intro _ _ _ _ _ _ _))
  trivial
theorem mkradial_none_raise {vs vc vr vf vm : Value} {tk : Tok} (zB : Below A₀ base outer h₀) (zF : Fr h₀ L s.heap m) (zX : (hd.heap_39 w.params).In h₀) (zN : News h₀ L s.heap news) (zT : Top p loose mean mg mb h₀) (zk : cs.kind = .function) (hr : dp + 6 < recursionLimit) (hu : un + 120 < cLine)
    (rz : ∀ e g₂ s', Sm s s' → Fr h₀ L g₂ m → RaisedSN base g₂ (envX cn cs L a ccd cl :: outer) e (.ref 89) [] s'.heap → g₂.UpToSlots s'.heap → E (.ref e) s') :
    wpAny (model prog w) (ktrTop dp un gd cn cs L a ccd cl outer) (call (.ref 392) [vs, vc, vr, vf, .str (Str.ofString "none") tk, vm]) Q E s := by
  k_dflt (refine' makeE (binds := fun x => [(Str.ofString "self", .ref x), (Str.ofString "stops", vs), (Str.ofString "centre", vc), (Str.ofString "radius", vr), (Str.ofString "focus", vf), (Str.ofString "kind", .str (Str.ofString "none") tk), (Str.ofString "inverse", vm), (Str.ofString "bottom", .int 256 671)]) zB zF zX zN zT zk ?m1 ?m2 ?m3 ?k6 ?k7 ?k8 ?k9 ?kB ?c2 ?c3 ?c4 ?c5 ?_; (case m1 => k_is); (case m2 => k_is); (case m3 => k_is); (case k6 => k_is); (case k7 => k_is); (case k8 => omega); (case k9 => intro _ _ hXX; first | exact BindsTo.of_eq rfl | exact binds_K hXX rfl (by k_is) rfl rfl rfl); (case c5 => decide); (case kB => intro _; exact locs rfl); (case c2 => exact rfl); (case c3 => exact rfl); (case c4 => exact rfl); k_whole; intro gg gL gs ix dx gS gG gFG gF gN gB gX gT gA gE; (try dsimp only); (try k_fold))
  k_extra "S"
  exact .inr ⟨_, _, _, rfl, by assumption, by assumption, by assumption, fun h' r u => rz _ _ _ (by k_extra "sm") gFG r u⟩

theorem rl_Exc4_3 : True := by
  k_with "call ref" => (k_here; (with_reducible show wpAny _ _ (call (Value.ref 193) _) _ _ _); k_dflt (refine' check_kind_spec ?cBzq ?cFzq ?cXzq ?cNzq ?cTzq ?ckzq ?cdzq ?cuzq ?p0zq ?_; (case cBzq => k_asm); (case cFzq => k_asm); (case cXzq => k_asm); (case cNzq => k_asm); (case cTzq => k_asm); (case ckzq => first | rfl | assumption); (case cdzq => k_extra "om"); (case cuzq => k_extra "om"); (case p0zq => (first | rfl | assumption)); k_whole; intro _ _ _ _; (try k_sweep)))
  trivial
theorem mkradial_neg_raise {vs vc vr vf vm : Value} {k : Kd} {tk : Tok} (zB : Below A₀ base outer h₀) (zF : Fr h₀ L s.heap m) (zX : (hd.heap_39 w.params).In h₀) (zN : News h₀ L s.heap news) (zT : Top p loose mean mg mb h₀) (zk : cs.kind = .function) (hrl : dp + 6 < recursionLimit) (hu : un + 120 < cLine)
    (hr : FracAt s.heap vr (-1) 1)
    (rz : ∀ e g₂ s', Sm s s' → Fr h₀ L g₂ m → RaisedSN base g₂ (envX cn cs L a ccd cl :: outer) e (.ref 89) [] s'.heap → g₂.UpToSlots s'.heap → E (.ref e) s') :
    wpAny (model prog w) (ktrTop dp un gd cn cs L a ccd cl outer) (call (.ref 392) [vs, vc, vr, vf, .str k.str tk, vm]) Q E s := by
  obtain ⟨ra, rfl⟩ := hr.isRef
  have hs1 : Int.sign (-1 * 1 - 0 * 1) < 0 := by decide
  k_dflt (refine' makeE (binds := fun x => [(Str.ofString "self", .ref x), (Str.ofString "stops", vs), (Str.ofString "centre", vc), (Str.ofString "radius", .ref ra), (Str.ofString "focus", vf), (Str.ofString "kind", .str k.str tk), (Str.ofString "inverse", vm), (Str.ofString "bottom", .int 256 671)]) zB zF zX zN zT zk ?m1 ?m2 ?m3 ?k6 ?k7 ?k8 ?k9 ?kB ?c2 ?c3 ?c4 ?c5 ?_; (case m1 => k_is); (case m2 => k_is); (case m3 => k_is); (case k6 => k_is); (case k7 => k_is); (case k8 => omega); (case k9 => intro _ _ hXX; first | exact BindsTo.of_eq rfl | exact binds_K hXX rfl (by k_is) rfl rfl rfl); (case c5 => decide); (case kB => intro _; exact locs rfl); (case c2 => exact rfl); (case c3 => exact rfl); (case c4 => exact rfl); k_whole; intro gg gL gs ix dx gS gG gFG gF gN gB gX gT gA gE; (try dsimp only); (try k_fold))
  have hr := hr.keeps gG
  k_extra "SR"
  refine Raise_sheet (by assumption) gX (topRead_of gT) (C := 89) (B := 52) (by k_is) (by kernel_rfl) rfl ?_
  k_extra "S"
  refine sheet_call_spec gB (by assumption) gX (by assumption) gT rfl (by k_extra "om") (by k_extra "om") ?_
  intro e t₀ dx2 s' S' F' N'
  refine ⟨e, t₀, dx2, rfl, gX.keeps F'.keep, (N' _ (.head _)).1, .inl ⟨e, _, _, _, _, _, rfl, F', N', rfl, rfl, rfl, rfl, fun h2 r u => rz _ _ _ (by k_extra "sm") gFG r u⟩⟩
end
end
end Mine

namespace Mine
section
theorem rl_Refu_1 : True := by
  k_with "eval Name" => (k_here; (fail_if_success (with_reducible show wpAny _ _ (eval (Expr.Name _ _) (compEnvC _ _ _ _)) _ _ _)); k_dflt (first | (refine' nameX_L ?Fzq ?vzq ?_ ?azq ?bzq; (case bzq => exact rfl); (case Fzq => k_asm); (case azq => exact rfl); (case vzq => first | exact rfl | assumption); k_whole) | (refine' nameX_K ?Fzq ?Xzq ?Tzq ?ezq ?_ ?azq ?bzq; (case bzq => exact rfl); (case Fzq => k_asm); (case Xzq => k_asm); (case Tzq => k_asm); (case azq => exact rfl); (case ezq => k_is); k_whole)))
  trivial



section
variable {prog : Program} {w : World} {p : Program} {loose : List Str} {mean : ExcName → Option Value} {mg mb : Str → Option Value}
  {dp un : Nat} {gd : Option (List Code)} {cn : Str} {cs : Scope} {a : Addr} {ccd : Value} {outer : List Env} {A₀ : Around} {base h₀ : Heap} {L : Addr}
  {m : Str → Option Value} {news : List (Addr × Obj)} {s : Shared} {Q E : Value → Shared → Prop}
theorem rl_Refu_4 : True := by
  k_with "call ref" => (k_here; (with_reducible show wpAny _ _ (call (Value.ref 293) _) _ _ _); k_dflt (refine' mkstops_spec ?cBzq ?cFzq ?cXzq ?cNzq ?cTzq ?ckzq ?cdzq ?cuzq ?p0zq ?p1zq ?p2zq ?p3zq ?_; (case cBzq => k_asm); (case cFzq => k_asm); (case cXzq => k_asm); (case cNzq => k_asm); (case cTzq => k_asm); (case ckzq => first | rfl | assumption); (case cdzq => k_extra "om"); (case cuzq => k_extra "om"); (case p0zq => (exact base_keeps (by assumption) (by k_asm))); (case p1zq => assumption); (case p2zq => assumption); (case p3zq => k_extra "om"); k_whole; intro v9 own9 s9 H9 G9 S9 F9 N9; clear H9 G9; (revert v9 own9 s9 S9 F9 N9; intros); (try k_sweep)))
  k_with "call ref" => (k_here; (with_reducible show wpAny _ _ (call (Value.ref 466) _) _ _ _); k_dflt (refine' identity_spec ?cBzq ?cFzq ?cXzq ?cNzq ?cTzq ?ckzq ?cdzq ?cuzq  ?_; (case cBzq => k_asm); (case cFzq => k_asm); (case cXzq => k_asm); (case cNzq => k_asm); (case cTzq => k_asm); (case ckzq => first | rfl | assumption); (case cdzq => k_extra "om"); (case cuzq => k_extra "om");  k_whole; intro v9 own9 s9 H9 G9 S9 F9 N9; clear H9 G9; (revert v9 own9 s9 S9 F9 N9; intros); (try k_sweep)))
  k_with "call ref" => (k_here; (with_reducible show wpAny _ _ (call (Value.ref 392) _) _ _ _); k_dflt (refine' mkradial_spec ?cBzq ?cFzq ?cXzq ?cNzq ?cTzq ?ckzq ?cdzq ?cuzq ?p0zq ?p1zq ?p2zq ?p3zq ?p4zq ?p5zq ?p6zq ?p7zq ?p8zq ?p9zq ?p10zq ?p11zq ?p12zq ?_; (case cBzq => k_asm); (case cFzq => k_asm); (case cXzq => k_asm); (case cNzq => k_asm); (case cTzq => k_asm); (case ckzq => first | rfl | assumption); (case cdzq => k_extra "om"); (case cuzq => k_extra "om"); (case p0zq => (first | exact PtAt.keeps (by with_reducible assumption) (Fr.keep (by k_asm)) | exact pt_news (by k_asm) (by k_mem) (by k_mem) (by k_mem))); (case p1zq => (first | exact PtAt.keeps (by with_reducible assumption) (Fr.keep (by k_asm)) | exact pt_news (by k_asm) (by k_mem) (by k_mem) (by k_mem))); (case p2zq => (first | exact FracAt.keeps (by with_reducible assumption) (Fr.keep (by k_asm)) | exact frac_news (by k_asm) (by k_mem) | exact zero_at (Frag.In.keeps (by with_reducible assumption) (Fr.keep (by with_reducible assumption))) | exact one_at (Frag.In.keeps (by with_reducible assumption) (Fr.keep (by with_reducible assumption))) | assumption)); (case p3zq => (exact (show (2 * 0 + 1 - (2 * 0 + 1) : Int) = 2 * 0 by decide))); (case p4zq => (exact (show (2 * 0 + 1 - (2 * 0 + 1) : Int) = 2 * 0 by decide))); (case p5zq => k_extra "om"); (case p6zq => k_extra "om"); (case p7zq => k_extra "om"); (case p8zq => k_extra "om"); (case p9zq => k_extra "om"); (case p10zq => k_extra "om"); (case p11zq => k_extra "om"); (case p12zq => (exact .inr ⟨by omega, by omega⟩)); k_whole; intro v9 own9 s9 H9 G9 S9 F9 N9; clear H9 G9; (revert v9 own9 s9 S9 F9 N9; intros); (try k_sweep)))
  trivial
theorem refused_ok_spec {vt : Value} {k : Kd} {tk0 t1 : Tok} {rows : List Row} {bs : List (Addr × Obj)} (zB : Below A₀ base outer h₀) (zF : Fr h₀ L s.heap m) (zX : (hd.heap_39 w.params).In h₀) (zN : News h₀ L s.heap news) (zT : Top p loose mean mg mb h₀) (zk : cs.kind = .function) (hd : dp + 12 < recursionLimit) (hu : un + 240 < cLine) (hbs : ∀ q ∈ bs, s.heap.get? q.1 = some q.2) (ht : RowsIn w bs vt rows)
    (hr : ∀ x ∈ rows, x.ok ∧ -1 ≤ x.o ∧ x.o ≤ 9) (hn : rows.length ≤ 4)
    (ret : ∀ s', Sm s s' → Fr h₀ L s'.heap m → News h₀ L s'.heap news → Q (.bool false) s') :
    wpAny (model prog w) (ktrTop dp un gd cn cs L a ccd [] outer) (call (.ref 544) [vt, .str k.str tk0, .int 1 t1]) Q E s := by
  k_dflt (refine' enterM (mu := []) (binds := [(Str.ofString "told", vt), (Str.ofString "kind", .str k.str tk0), (Str.ofString "radius", .int 1 t1)]) zB zF zX zN (fun _ _ h => nomatch h) zT zk ?k6 ?k7 ?k8 ?k9 ?kB ?c2 ?c3 ?c4 ?c5 ?_; (case k6 => k_is); (case k7 => k_is); (case k8 => k_extra "om"); (case k9 => first | exact BindsTo.of_eq rfl | exact binds_K (Frag.In.keeps zX zF.keep) rfl (by k_is) rfl rfl rfl); (case c5 => decide); (case kB => exact locs rfl); (case c2 => exact rfl); (case c3 => exact rfl); (case c4 => exact rfl); k_whole; intro gg gL gs gS gG gF gN gB gX gT gA gE; (try dsimp only); (try k_fold))
  have hbg : ∀ q ∈ bs, gg.get? q.1 = some q.2 := fun q hq => gG _ _ (hbs q hq) (fun h => nomatch h)
  k_extra "S"
  (all_goals (try dsimp only)); (all_goals (try k_unfold)); (all_goals (try dsimp only))
  exact retM (by assumption) (by assumption) (fun kF kN => ret _ (by k_extra "sm") kF (news_drop kN))
theorem refused_none_spec {vt : Value} {tk0 t1 : Tok} {rows : List Row} {bs : List (Addr × Obj)} (zB : Below A₀ base outer h₀) (zF : Fr h₀ L s.heap m) (zX : (hd.heap_39 w.params).In h₀) (zN : News h₀ L s.heap news) (zT : Top p loose mean mg mb h₀) (zk : cs.kind = .function) (hd : dp + 12 < recursionLimit) (hu : un + 240 < cLine) (xB : (Mine.hd.heap_39 w.params).In base) (xT : Top p loose mean mg mb base) (xD : KtsDicts (outer.filterMap (·.frame)) h₀) (hbs : ∀ q ∈ bs, s.heap.get? q.1 = some q.2) (ht : RowsIn w bs vt rows)
    (hr : ∀ x ∈ rows, x.ok ∧ -1 ≤ x.o ∧ x.o ≤ 9) (hn : rows.length ≤ 4)
    (ret : ∀ h₀2 s', Sm s s' → KtsTurn (outer.filterMap (·.frame)) h₀ h₀2 → Fr h₀2 L s'.heap m → News h₀2 L s'.heap news → Below A₀ base outer h₀2 → (Mine.hd.heap_39 w.params).In h₀2 → Top p loose mean mg mb h₀2 → KtsDicts (outer.filterMap (·.frame)) h₀2 → Q (.bool true) s') :
    wpAny (model prog w) (ktrTop dp un gd cn cs L a ccd [] outer) (call (.ref 544) [vt, .str (Str.ofString "none") tk0, .int 1 t1]) Q E s := by
  k_dflt (refine' enterS (binds := [(Str.ofString "told", vt), (Str.ofString "kind", .str (Str.ofString "none") tk0), (Str.ofString "radius", .int 1 t1)]) zB zF zX zN zT xB xT xD zk ?k6 ?k7 ?k8 ?k9 ?kB ?c2 ?c3 ?c4 ?c5 ?_; (case k6 => k_is); (case k7 => k_is); (case k8 => k_extra "om"); (case k9 => first | exact BindsTo.of_eq rfl | exact binds_K (Frag.In.keeps zX zF.keep) rfl (by k_is) rfl rfl rfl); (case c5 => decide); (case kB => exact locs rfl); (case c2 => exact rfl); (case c3 => exact rfl); (case c4 => exact rfl); k_whole; intro gg gL gs gS gG gF gN gB gX gT gD gA gE; (try dsimp only); (try k_fold))
  have hbg : ∀ q ∈ bs, gg.get? q.1 = some q.2 := fun q hq => gG _ _ (hbs q hq) (fun h => nomatch h)
  k_extra "S"
  refine mkradial_none_raise gB (by assumption) gX (by assumption) gT rfl (by k_extra "om") (by k_extra "om") ?_
  intro e g₂ s' S' F R U
  k_extra "S"
  refine' kts_lookSN R F gB U gD ?_
  intro h5 R5 U5
  (try dsimp only at R5 U5 ⊢)
  k_extra "S"
  (all_goals (try dsimp only)); (all_goals (try k_unfold)); (all_goals (try dsimp only))
  exact ⟨_, _, _, _, by assumption, by assumption, by assumption, fun h₀' T F N B X P D => ret h₀' _ (by k_extra "sm") T F (news_drop N) B X P D⟩
theorem refused_neg_spec {vt : Value} {k : Kd} {tk0 t1 : Tok} {rows : List Row} {bs : List (Addr × Obj)} (zB : Below A₀ base outer h₀) (zF : Fr h₀ L s.heap m) (zX : (hd.heap_39 w.params).In h₀) (zN : News h₀ L s.heap news) (zT : Top p loose mean mg mb h₀) (zk : cs.kind = .function) (hd : dp + 12 < recursionLimit) (hu : un + 240 < cLine) (xB : (Mine.hd.heap_39 w.params).In base) (xT : Top p loose mean mg mb base) (xD : KtsDicts (outer.filterMap (·.frame)) h₀) (hbs : ∀ q ∈ bs, s.heap.get? q.1 = some q.2) (ht : RowsIn w bs vt rows)
    (hr : ∀ x ∈ rows, x.ok ∧ -1 ≤ x.o ∧ x.o ≤ 9) (hn : rows.length ≤ 4)
    (ret : ∀ h₀2 s', Sm s s' → KtsTurn (outer.filterMap (·.frame)) h₀ h₀2 → Fr h₀2 L s'.heap m → News h₀2 L s'.heap news → Below A₀ base outer h₀2 → (Mine.hd.heap_39 w.params).In h₀2 → Top p loose mean mg mb h₀2 → KtsDicts (outer.filterMap (·.frame)) h₀2 → Q (.bool true) s') :
    wpAny (model prog w) (ktrTop dp un gd cn cs L a ccd [] outer) (call (.ref 544) [vt, .str k.str tk0, .int (-1) t1]) Q E s := by
  k_dflt (refine' enterS (binds := [(Str.ofString "told", vt), (Str.ofString "kind", .str k.str tk0), (Str.ofString "radius", .int (-1) t1)]) zB zF zX zN zT xB xT xD zk ?k6 ?k7 ?k8 ?k9 ?kB ?c2 ?c3 ?c4 ?c5 ?_; (case k6 => k_is); (case k7 => k_is); (case k8 => k_extra "om"); (case k9 => first | exact BindsTo.of_eq rfl | exact binds_K (Frag.In.keeps zX zF.keep) rfl (by k_is) rfl rfl rfl); (case c5 => decide); (case kB => exact locs rfl); (case c2 => exact rfl); (case c3 => exact rfl); (case c4 => exact rfl); k_whole; intro gg gL gs gS gG gF gN gB gX gT gD gA gE; (try dsimp only); (try k_fold))
  have hbg : ∀ q ∈ bs, gg.get? q.1 = some q.2 := fun q hq => gG _ _ (hbs q hq) (fun h => nomatch h)
  k_extra "S"
  refine mkradial_neg_raise gB (by assumption) gX (by assumption) gT rfl (by k_extra "om") (by k_extra "om") (by (first | exact FracAt.keeps (by with_reducible assumption) (Fr.keep (by k_asm)) | exact frac_news (by k_asm) (by k_mem) | exact zero_at (Frag.In.keeps (by with_reducible assumption) (Fr.keep (by with_reducible assumption))) | exact one_at (Frag.In.keeps (by with_reducible assumption) (Fr.keep (by with_reducible assumption))) | assumption)) ?_
  intro e g₂ s' S' F R U
  k_extra "S"
  refine' kts_lookSN R F gB U gD ?_
  intro h5 R5 U5
  (try dsimp only at R5 U5 ⊢)
  k_extra "S"
  (all_goals (try dsimp only)); (all_goals (try k_unfold)); (all_goals (try dsimp only))
  exact ⟨_, _, _, _, by assumption, by assumption, by assumption, fun h₀' T F N B X P D => ret h₀' _ (by k_extra "sm") T F (news_drop N) B X P D⟩
end
end
end Mine

namespace Mine
section



theorem mem_app1 {own l : List (Addr × Obj)} {x : Addr × Obj} (h : ∀ q ∈ own, q ∈ l) (hx : x ∈ l) : ∀ q ∈ own ++ [x], q ∈ l := fun q hq => (List.mem_append.mp hq).elim (h q) fun hq => List.mem_singleton.mp hq ▸ hx
section
variable {prog : Program} {w : World} {p : Program} {loose : List Str} {mean : ExcName → Option Value} {mg mb : Str → Option Value}
  {dp un : Nat} {gd : Option (List Code)} {cn : Str} {cs : Scope} {a : Addr} {ccd : Value} {cl : List (Str × Addr)} {outer : List Env} {A₀ : Around} {base h₀ : Heap} {L : Addr}
  {m : Str → Option Value} {news : List (Addr × Obj)} {s : Shared} {Q E : Value → Shared → Prop}
theorem mkstops_nil_spec {l : Addr} {n : Nat} (zB : Below A₀ base outer h₀) (zF : Fr h₀ L s.heap m) (zX : (hd.heap_39 w.params).In h₀) (zN : News h₀ L s.heap news) (zT : Top p loose mean mg mb h₀) (zk : cs.kind = .function) (hd : dp + 8 < recursionLimit) (hu : un + 160 < cLine) (hl : (l, listOf #[] n) ∈ news)
    (ret : ∀ v own s', Holds w (own ++ [(l, listOf #[] n)]) (fun h => StopsAt h v []) → (∀ q ∈ own, s.heap.get? q.1 = none) → Sm s s' → Fr h₀ L s'.heap m → News h₀ L s'.heap (own ++ news) → Q v s') :
    wpAny (model prog w) (ktrTop dp un gd cn cs L a ccd cl outer) (call (.ref 293) [.ref l]) Q E s :=
  mkstops_spec (bs := [(l, listOf #[] n)]) (rows := []) zB zF zX zN zT zk hd hu (fun q hq => by rw [List.mem_singleton.mp hq]; exact (zN _ hl).1) ⟨l, [], rfl, fun h _ hq => ⟨_, hq _ (.head _), rfl, _, rfl⟩, .nil⟩ (fun _ h => nomatch h) (Nat.zero_le _) ret
end
section
variable {prog : Program} {w : World} {p : Program} {loose : List Str} {mean : ExcName → Option Value} {mg mb : Str → Option Value}
  {dp un : Nat} {gd : Option (List Code)} {cn : Str} {cs : Scope} {a : Addr} {ccd : Value} {outer : List Env} {A₀ : Around} {base h₀ : Heap} {L : Addr}
  {m : Str → Option Value} {news : List (Addr × Obj)} {s : Shared} {Q E : Value → Shared → Prop}
theorem rl_LawI_4 : True := by
  k_with "call ref" => (k_here; (with_reducible show wpAny _ _ (call (Value.ref 293) _) _ _ _); k_dflt (refine' mkstops_spec ?cBzq ?cFzq ?cXzq ?cNzq ?cTzq ?ckzq ?cdzq ?cuzq ?p0zq ?p1zq ?p2zq ?p3zq ?_; (case cBzq => k_asm); (case cFzq => k_asm); (case cXzq => k_asm); (case cNzq => k_asm); (case cTzq => k_asm); (case ckzq => first | rfl | assumption); (case cdzq => k_extra "om"); (case cuzq => k_extra "om"); (case p0zq => (exact base_keeps (by assumption) (by k_asm))); (case p1zq => assumption); (case p2zq => assumption); (case p3zq => k_extra "om"); k_whole; intro v9 own9 s9 H9 G9 S9 F9 N9; (have K9 := Known.ofFb F9 (by assumption) (by assumption) H9); clear G9; (revert v9 own9 s9 H9 S9 F9 N9 K9; intros); (try k_sweep)))
  k_with "call ref" => (k_here; (with_reducible show wpAny _ _ (call (Value.ref 293) _) _ _ _); k_dflt (refine' mkstops_nil_spec ?cBzq ?cFzq ?cXzq ?cNzq ?cTzq ?ckzq ?cdzq ?cuzq ?p0zq ?_; (case cBzq => k_asm); (case cFzq => k_asm); (case cXzq => k_asm); (case cNzq => k_asm); (case cTzq => k_asm); (case ckzq => first | rfl | assumption); (case cdzq => k_extra "om"); (case cuzq => k_extra "om"); (case p0zq => k_mem); k_whole; intro v9 own9 s9 H9 G9 S9 F9 N9; (have K9 := Known.ofF F9 (by assumption) H9); clear G9; (revert v9 own9 s9 H9 S9 F9 N9 K9; intros); (try k_sweep)))
  k_with "call ref" => (k_here; (with_reducible show wpAny _ _ (call (Value.ref 466) _) _ _ _); k_dflt (refine' identity_spec ?cBzq ?cFzq ?cXzq ?cNzq ?cTzq ?ckzq ?cdzq ?cuzq  ?_; (case cBzq => k_asm); (case cFzq => k_asm); (case cXzq => k_asm); (case cNzq => k_asm); (case cTzq => k_asm); (case ckzq => first | rfl | assumption); (case cdzq => k_extra "om"); (case cuzq => k_extra "om");  k_whole; intro v9 own9 s9 H9 G9 S9 F9 N9; clear G9; (revert v9 own9 s9 H9 S9 F9 N9; intros); (try k_sweep)))
  k_with "call ref" => (k_here; (with_reducible show wpAny _ _ (call (Value.ref 392) _) _ _ _); k_dflt (refine' mkradial_spec ?cBzq ?cFzq ?cXzq ?cNzq ?cTzq ?ckzq ?cdzq ?cuzq ?p0zq ?p1zq ?p2zq ?p3zq ?p4zq ?p5zq ?p6zq ?p7zq ?p8zq ?p9zq ?p10zq ?p11zq ?p12zq ?_; (case cBzq => k_asm); (case cFzq => k_asm); (case cXzq => k_asm); (case cNzq => k_asm); (case cTzq => k_asm); (case ckzq => first | rfl | assumption); (case cdzq => k_extra "om"); (case cuzq => k_extra "om"); (case p0zq => (exact known_pt (by assumption) (by k_asm) (by k_asm) (by (intro q hq; simp only [List.mem_cons, List.mem_append, hq, or_true, true_or])))); (case p1zq => (exact known_pt (by assumption) (by k_asm) (by k_asm) (by (intro q hq; simp only [List.mem_cons, List.mem_append, hq, or_true, true_or])))); (case p2zq => (first | exact FracAt.keeps (by with_reducible assumption) (Fr.keep (by k_asm)) | exact frac_news (by k_asm) (by k_mem) | exact zero_at (Frag.In.keeps (by with_reducible assumption) (Fr.keep (by with_reducible assumption))) | exact one_at (Frag.In.keeps (by with_reducible assumption) (Fr.keep (by with_reducible assumption))) | assumption)); (case p3zq => (exact (show (2 * 0 + 1 - (2 * 0 + 1) : Int) = 2 * 0 by decide))); (case p4zq => (exact (show (2 * 0 + 1 - (2 * 0 + 1) : Int) = 2 * 0 by decide))); (case p5zq => k_extra "om"); (case p6zq => k_extra "om"); (case p7zq => k_extra "om"); (case p8zq => k_extra "om"); (case p9zq => k_extra "om"); (case p10zq => k_extra "om"); (case p11zq => k_extra "om"); (case p12zq => (exact .inl rfl)); k_whole; intro v9 own9 s9 H9 G9 S9 F9 N9; (have K9 := Known.ofF F9 (by assumption) H9); clear G9; (revert v9 own9 s9 H9 S9 F9 N9 K9; intros); (try k_sweep)))
  k_with "call ref" => (k_here; (with_reducible show wpAny _ _ (call (Value.ref 285) _) _ _ _); k_dflt (refine' colour_nil_spec ?cBzq ?cFzq ?cXzq ?cNzq ?cTzq ?ckzq ?cdzq ?cuzq ?p0zq ?_; (case cBzq => k_asm); (case cFzq => k_asm); (case cXzq => k_asm); (case cNzq => k_asm); (case cTzq => k_asm); (case ckzq => first | rfl | assumption); (case cdzq => k_extra "om"); (case cuzq => k_extra "om"); (case p0zq => (exact known_stops (by assumption) (by k_asm) (by k_asm) (by exact mem_app1 (by (intro q hq; simp only [List.mem_cons, List.mem_append, hq, or_true, true_or]; done)) (by k_mem)))); k_whole; intro _ _ _ _; (try k_sweep)))
  k_with "call ref" => (k_here; (with_reducible show wpAny _ _ (call (Value.ref 285) _) _ _ _); k_dflt (refine' colour_spec ?cBzq ?cFzq ?cXzq ?cNzq ?cTzq ?ckzq ?cdzq ?cuzq ?p0zq ?p1zq ?p2zq ?p3zq ?p4zq ?p5zq ?p6zq ?_; (case cBzq => k_asm); (case cFzq => k_asm); (case cXzq => k_asm); (case cNzq => k_asm); (case cTzq => k_asm); (case ckzq => first | rfl | assumption); (case cdzq => k_extra "om"); (case cuzq => k_extra "om"); (case p0zq => (exact known_stops (by assumption) (by k_asm) (by k_asm) (by (intro q hq; simp only [List.mem_cons, List.mem_append, hq, or_true, true_or])))); (case p1zq => (first | exact FracAt.keeps (by with_reducible assumption) (Fr.keep (by k_asm)) | exact frac_news (by k_asm) (by k_mem) | exact zero_at (Frag.In.keeps (by with_reducible assumption) (Fr.keep (by with_reducible assumption))) | exact one_at (Frag.In.keeps (by with_reducible assumption) (Fr.keep (by with_reducible assumption))) | assumption)); (case p2zq => assumption); (case p3zq => assumption); (case p4zq => assumption); (case p5zq => k_extra "om"); (case p6zq => k_extra "om"); k_whole; intro _ _ _ _ _ _ _ _ _; (try k_sweep)))
  k_with "call ref" => (k_here; (with_reducible show wpAny _ _ (call (Value.ref 516) _) _ _ _); k_dflt (refine' law_colour_spec ?cBzq ?cFzq ?cXzq ?cNzq ?cTzq ?ckzq ?cdzq ?cuzq ?p0zq ?p1zq ?p2zq ?p3zq ?p4zq ?p5zq ?p6zq ?_; (case cBzq => k_asm); (case cFzq => k_asm); (case cXzq => k_asm); (case cNzq => k_asm); (case cTzq => k_asm); (case ckzq => first | rfl | assumption); (case cdzq => k_extra "om"); (case cuzq => k_extra "om"); (case p0zq => (exact OrdsAt.keeps (by assumption) (Fr.keep (by k_asm)))); (case p1zq => assumption); (case p2zq => assumption); (case p3zq => assumption); (case p4zq => assumption); (case p5zq => k_extra "om"); (case p6zq => k_extra "om"); k_whole; intro _ _ _ _ _ _ _ _ _; (try k_sweep)))
  k_with "call ref" => (k_here; (with_reducible show wpAny _ _ (call (Value.ref 389) _) _ _ _); k_dflt (refine' rad_colour0_spec ?cBzq ?cFzq ?cXzq ?cNzq ?cTzq ?ckzq ?cdzq ?cuzq ?p0zq ?p1zq ?p2zq ?p3zq ?p4zq ?_; (case cBzq => k_asm); (case cFzq => k_asm); (case cXzq => k_asm); (case cNzq => k_asm); (case cTzq => k_asm); (case ckzq => first | rfl | assumption); (case cdzq => k_extra "om"); (case cuzq => k_extra "om"); (case p0zq => (exact known_rad (by assumption) (by k_asm) (by k_asm) (by (intro q hq; simp only [List.mem_cons, List.mem_append, hq, or_true, true_or])))); (case p1zq => (first | exact FracAt.keeps (by with_reducible assumption) (Fr.keep (by k_asm)) | exact frac_news (by k_asm) (by k_mem) | exact zero_at (Frag.In.keeps (by with_reducible assumption) (Fr.keep (by with_reducible assumption))) | exact one_at (Frag.In.keeps (by with_reducible assumption) (Fr.keep (by with_reducible assumption))) | assumption)); (case p2zq => (exact known_stops (by assumption) (by k_asm) (by k_asm) (by (intro q hq; simp only [List.mem_cons, List.mem_append, hq, or_true, true_or])))); (case p3zq => assumption); (case p4zq => assumption); k_whole; intro _ _ _ _ _ _ _ _ _; (try k_sweep)))
  k_with "getMethod" => (k_here; k_dflt (first | (refine' method_rad ?Kzq ?Fzq ?Xzq ?nzq ?gzq ?fzq ?tzq ?_; (case Kzq => exact known_rad (by assumption) (by k_asm) (by k_asm) (by (intro q hq; simp only [List.mem_cons, List.mem_append, hq, or_true, true_or]))); (case Fzq => k_asm); (case Xzq => k_asm); (case nzq => first | exact fun es h => h.1 | exact fun es h => h.2.1); (case gzq => k_is); (case fzq => k_is); (case tzq => k_is); k_whole) | (refine' method_stops ?Kzq ?Fzq ?Xzq ?nzq ?gzq ?fzq ?tzq ?_; (case Kzq => exact known_stops (by assumption) (by k_asm) (by k_asm) (by first | (intro q hq; simp only [List.mem_cons, List.mem_append, hq, or_true, true_or]; done) | exact mem_app1 (by (intro q hq; simp only [List.mem_cons, List.mem_append, hq, or_true, true_or]; done)) (by k_mem))); (case Fzq => k_asm); (case Xzq => k_asm); (case nzq => exact fun es h => h.2.1); (case gzq => k_is); (case fzq => k_is); (case tzq => k_is); k_whole)))
  k_with "compareOp NotEq ref ref" => (k_here; k_dflt (first | refine' ne_four (by k_asm) (by k_mem) (by k_mem) (by (first | exact units_lim (by with_reducible assumption) (by rfl) | ktr_units)) ?_ | refine' ne_tup (tupK (Frag.In.keeps (by assumption) (Fr.keep (by k_asm))) (by k_is)) (News.isTup (by k_asm) (by k_mem)) (.cons _ _ (.cons _ _ (.cons _ _ (.cons _ _ .nil)))) (.cons _ _ (.cons _ _ (.cons _ _ (.cons _ _ .nil)))) (by (first | exact units_lim (by with_reducible assumption) (by rfl) | ktr_units)) ?_))
  k_with "call ref" => (k_here; (with_reducible show wpAny _ _ (call (Value.ref 544) _) _ _ _); fail "by hand")
  trivial
theorem law_odd_right_spec {vl vt : Value} {k : Kd} {tk0 : Tok} {rows : List Row} {bs : List (Addr × Obj)} (zB : Below A₀ base outer h₀) (zF : Fr h₀ L s.heap m) (zX : (hd.heap_39 w.params).In h₀) (zN : News h₀ L s.heap news) (zT : Top p loose mean mg mb h₀) (zk : cs.kind = .function) (hd : dp + 16 < recursionLimit) (hu : un + 320 < cLine) (xB : (Mine.hd.heap_39 w.params).In base) (xT : Top p loose mean mg mb base) (xD : KtsDicts (outer.filterMap (·.frame)) h₀) (hbs : ∀ q ∈ bs, s.heap.get? q.1 = some q.2) (hbn : ∀ q ∈ bs, q ∈ news) (ht : RowsIn w bs vt rows) (hl : Holds w bs (fun h => OrdsAt h vl (ordF 0 rows)))
    (hr : ∀ x ∈ rows, x.ok ∧ -1 ≤ x.o ∧ x.o ≤ 9) (hn : 0 < rows.length ∧ rows.length ≤ 4)
    (ret : ∀ h₀2 s', Sm s s' → KtsTurn (outer.filterMap (·.frame)) h₀ h₀2 → Fr h₀2 L s'.heap m → News h₀2 L s'.heap news → Below A₀ base outer h₀2 → (Mine.hd.heap_39 w.params).In h₀2 → Top p loose mean mg mb h₀2 → KtsDicts (outer.filterMap (·.frame)) h₀2 → Q (.bool true) s') :
    wpAny (model prog w) (ktrTop dp un gd cn cs L a ccd [] outer) (call (.ref 551) [vl, vt, .str k.str tk0]) Q E s := by
  k_dflt (refine' enterS (binds := [(Str.ofString "stops", vl), (Str.ofString "told", vt), (Str.ofString "kind", .str k.str tk0)]) zB zF zX zN zT xB xT xD zk ?k6 ?k7 ?k8 ?k9 ?kB ?c2 ?c3 ?c4 ?c5 ?_; (case k6 => k_is); (case k7 => k_is); (case k8 => k_extra "om"); (case k9 => first | exact BindsTo.of_eq rfl | exact binds_K (Frag.In.keeps zX zF.keep) rfl (by k_is) rfl rfl rfl); (case c5 => decide); (case kB => exact locs rfl); (case c2 => exact rfl); (case c3 => exact rfl); (case c4 => exact rfl); k_whole; intro gg gL gs gS gG gF gN gB gX gT gD gA gE; (try dsimp only); (try k_fold))
  have hbg : ∀ q ∈ bs, gg.get? q.1 = some q.2 := fun q hq => gG _ _ (hbs q hq) (fun h => nomatch h)
  refine hideG fun Gzq kzq => ?_
  obtain ⟨hpr, hso⟩ := ordF_props 0 rows (by k_extra "om") (fun x hx => (hr x hx).1)
  refine kzq ?_
  clear kzq Gzq
  have hpr' : ∀ x ∈ ordF 0 rows, x.ok ∧ 0 ≤ x.o ∧ x.o ≤ 8 := hpr
  have hlen := ordF_len 0 rows
  have hne0 : ordF 0 rows ≠ [] := fun h => by rw [h] at hlen; simp at hlen; omega
  have hle4 : (ordF 0 rows).length ≤ 4 := by k_extra "om"
  have hord : OrdsAt gg vl (ordF 0 rows) := hl gg gX hbg
  clear hpr
  k_extra "S"
  rename News gg _ _ _ => N6
  rename Fr gg _ _ _ => F6
  rename_i vS oS _ HS _ KSx _ _ ap xp yp f1 f2 f3 f4 _ _ _ _ _ _ s6 _
  refine hideG fun Gzq kzq => ?_
  obtain ⟨led, N7, KS, KP, mm, F7, k1, k2, k3, k4, k5⟩ : ∃ led, News gg gL s6.heap led ∧ Known gg gL led (fun h => StopsAt h vS (ordF 0 rows)) ∧ Known gg gL led (fun h => PtAt h (.ref ap) (2 * 0 + 1) 2 (2 * 0 + 1) 2) ∧
      ∃ mm, Fr gg gL s6.heap mm ∧ mm (Str.ofString "rows") = some vS ∧ mm (Str.ofString "place") = some (.ref ap) ∧ mm (Str.ofString "stops") = some vl ∧ mm (Str.ofString "told") = some vt ∧ mm (Str.ofString "kind") = some (.str k.str tk0) := by
    refine ⟨_, N6, ?_, ?_, _, F6, rfl, rfl, rfl, rfl, rfl⟩
    · exact (Known.of HS gX hbg).more fun q hq => by simp only [List.mem_cons, List.mem_append, hq, or_true, true_or]
    · exact fun h m l F N hs => ⟨ap, .ref xp, .ref yp, rfl, News.isTup N (hs _ (by k_mem)), ⟨xp, f1, f2, rfl, News.isTup N (hs _ (by k_mem))⟩, ⟨yp, f3, f4, rfl, News.isTup N (hs _ (by k_mem))⟩⟩
  refine kzq ?_
  clear kzq Gzq
  clear N6 F6 HS KSx hl
  generalize hR0 : ordF 0 rows = RR at *
  refine hideG fun Gzq kzq => ?_
  obtain ⟨lo, vo, rfl, ilo, hpo⟩ := id hord
  refine kzq ?_
  clear kzq Gzq
  refine wpAny_For ?_
  k_extra "S"
  refine for_list (l := lo) (vs := vo) (pin := led) (nw := []) rfl (isList_keeps ilo F7.keep) (.inl ⟨_, ilo.choose_spec.1⟩)
    (fun i m₁ nw => nw = [] ∧ (m₁ (Str.ofString "rows") = some vS ∧ m₁ (Str.ofString "place") = some (.ref ap) ∧ m₁ (Str.ofString "stops") = some (.ref lo) ∧ m₁ (Str.ofString "told") = some vt ∧ m₁ (Str.ofString "kind") = some (.str k.str tk0)))
    F7 (by rw [List.append_nil]; exact N7) ⟨rfl, k1, k2, k3, k4, k5⟩ ?_ ?_
  · intro I i v hlt hv m₁ nw₁ s1 oI hJ hne ⟨fI, hoI⟩ S1 F N
    refine hideG fun Gzq kzq => ?_
    obtain ⟨rfl, k1, k2, k3, k4, k5⟩ := hJ
    refine kzq ?_
    clear kzq Gzq
    clear F7 N7
    rw [List.append_nil] at N
    refine hideG fun Gzq kzq => ?_
    obtain ⟨x, hx, a1, t1, vf, rfl, ia, ifour⟩ := paired_get hpo i v hv
    obtain ⟨⟨⟨y1, y2⟩, ⟨y3, y4⟩, ⟨y5, y6⟩, ⟨y7, y8⟩⟩, ⟨y9, y10⟩⟩ := hpr' x (List.mem_of_getElem? hx)
    refine kzq ?_
    clear kzq Gzq
    clear hv hx hne hlt
    k_extra "S"
    refine' ForOn.mk _ [] _ (by k_extra "sm") ?z1 ?z2 ?z3 ?z4 ?z5 ?z6 ⟨rfl, ?z9⟩
    case z1 => assumption
    case z2 => assumption
    case z3 => k_mem
    case z4 => exact fun p hp => by simp only [List.mem_cons, hp, or_true]
    case z5 => exact fun _ h => nomatch h
    case z6 => exact fun _ h => nomatch h
    case z9 => exact ⟨k1, k2, k3, k4, k5⟩
  · intro m₁ nw₁ s1 hJ S1 F N
    refine hideG fun Gzq kzq => ?_
    obtain ⟨rfl, k1, k2, k3, k4, k5⟩ := hJ
    refine kzq ?_
    clear kzq Gzq
    clear F7 N7
    rw [List.append_nil] at N
    refine hideG fun Gzq kzq => ?_
    obtain ⟨xl, hxl⟩ : ∃ x, RR.getLast? = some x := ⟨RR.getLast hne0, List.getLast?_eq_some_getLast hne0⟩
    obtain ⟨⟨⟨y1, y2⟩, ⟨y3, y4⟩, ⟨y5, y6⟩, ⟨y7, y8⟩⟩, _⟩ := hpr' xl (List.mem_of_getLast? hxl)
    refine kzq ?_
    clear kzq Gzq
    have hxok : xl.ok := ⟨⟨y1, y2⟩, ⟨y3, y4⟩, ⟨y5, y6⟩, ⟨y7, y8⟩⟩
    have hlast : ∃ y, vo.getLast? = some y ∧ OrdAt gg y xl := by
      have := hxl
      rw [List.getLast?_eq_getElem?] at this ⊢
      rw [← hpo.length] at this
      exact paired_get2 hpo _ _ this
    refine hideG fun Gzq kzq => ?_
    obtain ⟨yl, hyl, al, tl, vf, rfl, ial, ifour⟩ := hlast
    refine kzq ?_
    clear kzq Gzq
    k_extra "S"
    have hbf : ∀ q ∈ bs, q.1 ∉ (envOf cn cs L a ccd :: outer).filterMap (·.frame) := fun q hq hm => by
      refine hideG fun Gzq kzq => ?_
      obtain ⟨n1, n2, n3⟩ := zN q (hbn q hq)
      refine kzq ?_
      clear kzq Gzq
      rcases kts_mem hm with z | z
      · exact n2 z
      · obtain ⟨_, o, ho', _⟩ := zB.frames.mem z
        rw [n3] at ho'
        cases ho'
    rename News gg _ _ _ => N1
    rename Fr gg _ _ _ => F1
    refine refused_neg_spec gB F1 gX N1 gT rfl (by k_extra "om") (by k_extra "om") xB xT gD (base_keeps hbg F1) ht hr hn.2 ?_
    intro g2 s2 S2 KT2 F2 N2 B2 X2 T2 D2
    have hbg2 : ∀ q ∈ bs, g2.get? q.1 = some q.2 := fun q hq => KT2.other _ _ (hbg q hq) (hbf q hq)
    clear F1 N1 gB gX gT gD KS KP ilo hpo hord ial ifour hbg
    k_extra "S"
    rename News g2 _ _ _ => N3
    rename Fr g2 _ _ _ => F3
    refine refused_none_spec B2 F3 X2 N3 T2 rfl (by k_extra "om") (by k_extra "om") xB xT D2 (base_keeps hbg2 F3) ht hr hn.2 ?_
    intro g3 s3 S3 KT3 F4 N4 B4 X4 T4 D4
    have hbg3 : ∀ q ∈ bs, g3.get? q.1 = some q.2 := fun q hq => KT3.other _ _ (hbg2 q hq) (hbf q hq)
    clear F3 N3 B2 X2 T2 D2 hbg2
    k_extra "S"
    rename News g3 _ _ _ => N5
    rename Fr g3 _ _ _ => F5
    refine refused_ok_spec B4 F5 X4 N5 T4 rfl (by k_extra "om") (by k_extra "om") (base_keeps hbg3 F5) ht hr hn.2 ?_
    intro s6 S6 F6 N6
    k_extra "S"
    (all_goals (try dsimp only)); (all_goals (try k_unfold)); (all_goals (try dsimp only))
    exact ⟨_, _, _, _, KT2.trans KT3, by assumption, by assumption, fun h₀' T F N B X P D => ret h₀' _ (by k_extra "sm") T F (news_drop N) B X P D⟩
end
end
end Mine

namespace Mine
section



theorem rl_LawZ_4 : True := by
  k_with "eval Name" => (k_here; k_inBlock; k_dflt (first | (refine' PyProof.Rows.ldVarK ?nzq ?vzq ?_ ?azq ?bzq ?czq; (case azq => rfl); (case bzq => rfl); (case czq => decide); (case nzq => first | assumption | exact ns_led (by assumption) (by assumption) (by k_mem) (by k_asm) (by k_mem)); (case vzq => first | rfl | assumption); k_whole) | (refine' PyProof.Rows.ldCellK ?czq ?vzq ?_ ?azq ?bzq ?dzq ?ezq; (case azq => rfl); (case bzq => rfl); (case dzq => decide); (case ezq => decide); (case czq => rfl); (case vzq => exact cell_led (by k_asm) (by k_mem) (by assumption)); k_whole)))
  trivial

section
variable {prog : Program} {w : World} {A : Around} {E : Value → Shared → Prop} {s : Shared} {env : Env} {h₀ : Heap} {L : Addr} {m : Str → Option Value}
theorem assign_comp3 {scope : Scope} {cl : List (Str × Addr)} {x y z : Str} {px py pz tp : Pos} {kk : Nat} {T : Addr} {u v q : Value} {D C : Addr} {oD oC : Obj} {rest : List (Addr × Obj)} {mC : Str → Option Value} {Q : Unit → Shared → Prop} (hh : A.handled = none)
    (ht : IsTup s.heap T #[u, v, q]) (hx : (compEnvC scope cl C env).kindOf x = some .local) (hy : (compEnvC scope cl C env).kindOf y = some .local) (hz : (compEnvC scope cl C env).kindOf z = some .local) (hkind : scope.kind = .function)
    (F : Fr h₀ L s.heap m) (N : News h₀ L s.heap ((D, oD) :: (C, oC) :: rest)) (hDC : D ≠ C) (hr : ∀ p ∈ rest, p.1 ≠ C) (hC : s.heap.Ns C mC)
    (k : ∀ (s₁ : Shared) oC', Sm s s₁ → Fr h₀ L s₁.heap m → News h₀ L s₁.heap ((D, oD) :: (C, oC') :: rest) → s₁.heap.Ns C (fun n => if n = z then some q else if n = y then some v else if n = x then some u else mC n) → Q () s₁) :
    wpAny (model prog w) A (assign (.Tuple [.Name x px, .Name y py, .Name z pz] kk tp) (compEnvC scope cl C env) (.ref T)) Q E s := by
  refine wpAny_assign_Tuple hh ht rfl rfl fun h₁ he₁ => ?_
  have up : ∀ c o, s.heap.get? c = some o → h₁.get? c = some o := fun c o e => he₁ c o (Nat.ne_of_lt (Heap.lt_size e)) e
  have F₁ : Fr h₀ L h₁ m := ⟨F.ns.at' fun o e => up _ o e, fun b o e => up _ _ (F.keep b o e), F.above⟩
  have N₁ : News h₀ L h₁ ((D, oD) :: (C, oC) :: rest) := fun p hp => ⟨up _ _ (N p hp).1, (N p hp).2⟩
  have hC₁ : h₁.Ns C mC := hC.at' fun o e => up _ o e
  show wpAny _ _ (assignInOrder [assign (.Name x px) (compEnvC scope cl C env), assign (.Name y py) (compEnvC scope cl C env), assign (.Name z pz) (compEnvC scope cl C env)] [u, v, q]) _ _ _
  refine assignInOrder_cons ?_
  refine assign_comp (s := { s with heap := h₁ }) hx hkind F₁ N₁ hDC hr hC₁ fun h₂ oC2 S₂ F₂ N₂ hC₂ => ?_
  refine assignInOrder_cons ?_
  refine assign_comp (s := h₂) hy hkind F₂ N₂ hDC hr hC₂ fun h₃ oC3 S₃ F₃ N₃ hC₃ => ?_
  refine assignInOrder_cons ?_
  refine assign_comp (s := h₃) hz hkind F₃ N₃ hDC hr hC₃ fun h₄ oC4 S₄ F₄ N₄ hC₄ => ?_
  refine assignInOrder_nil ?_
  exact k h₄ _ ((Sm.trans S₂ S₃).trans S₄) F₄ N₄ hC₄
end
theorem ns_led2 {h₀ h h' : Heap} {L : Addr} {l : List (Addr × Obj)} {C : Addr} {oC : Obj} {mC : Str → Option Value} (hC : h'.Ns C mC) (hO : h'.get? C = some oC) (N : News h₀ L h l) (mm : (C, oC) ∈ l) : h.Ns C mC :=
  hC.at' fun o e => by
    rw [hO] at e; cases e
    exact (N _ mm).1
theorem rl_LawZ_5 : True := by
  k_with "eval Name" => (k_here; k_inBlock; k_dflt (refine' PyProof.Rows.ldVarK ?nzq ?vzq ?_ ?azq ?bzq ?czq; (case azq => rfl); (case bzq => rfl); (case czq => decide); (case nzq => first | assumption | exact ns_led2 (by assumption) (by assumption) (by k_asm) (by k_mem)); (case vzq => first | rfl | assumption); k_whole))
  trivial
theorem menu_kind {x : Value} {t1 t2 t3 : Tok} (h : x ∈ [Value.str (Str.ofString "pad") t1, .str (Str.ofString "repeat") t2, .str (Str.ofString "reflect") t3]) : ∃ k t, x = .str (Kd.str k) t := by
  simp only [List.mem_cons, List.not_mem_nil, or_false] at h
  rcases h with rfl | rfl | rfl
  · exact ⟨.pad, _, rfl⟩
  · exact ⟨.rep, _, rfl⟩
  · exact ⟨.refl, _, rfl⟩
theorem rl_LawZ_6 : True := by
  k_with "call ref" => (k_here; (with_reducible show wpAny _ _ (call (Value.ref 473) _) _ _ _); k_dflt (refine' pool_spec ?cBzq ?cFzq ?cXzq ?cNzq ?cTzq ?ckzq ?cdzq ?cuzq ?p0zq ?p1zq ?p2zq ?_; (case cBzq => k_asm); (case cFzq => k_asm); (case cXzq => k_asm); (case cNzq => k_asm); (case cTzq => k_asm); (case ckzq => first | rfl | assumption); (case cdzq => k_extra "om"); (case cuzq => k_extra "om"); (case p0zq => (exact isList_keeps (by assumption) (Fr.keep (by k_asm)))); (case p1zq => assumption); (case p2zq => assumption); k_whole; intro _ _ _ _ _ _ _ _ _ _ _ _; (try k_sweep)))
  k_with "call ref" => (k_here; (with_reducible show wpAny _ _ (call (Value.ref 492) _) _ _ _); k_dflt (refine' law_stops_spec ?cBzq ?cFzq ?cXzq ?cNzq ?cTzq ?ckzq ?cdzq ?cuzq ?p0zq ?p1zq ?p2zq ?p3zq ?_; (case cBzq => k_asm); (case cFzq => k_asm); (case cXzq => k_asm); (case cNzq => k_asm); (case cTzq => k_asm); (case ckzq => first | rfl | assumption); (case cdzq => k_extra "om"); (case cuzq => k_extra "om"); (case p0zq => (first | exact Split.head | (apply Split.tail; first | exact Split.head | (apply Split.tail; first | exact Split.head | (apply Split.tail; first | exact Split.head | (repeat (first | exact Split.head | apply Split.tail))))))); (case p1zq => (repeat' (first | exact Apart.nil | assumption | refine Apart.append ?_ ?_ | refine Apart.cons ?_ ?_ | exact ne_of_cls (by k_asm) (by k_mem) (by k_mem) (by intro hq; exact absurd (Value.type.inj hq) (by decide)) | exact ne_of_data (by k_asm) (by k_mem) (by k_mem) (by intro hq; cases hq)))); (case p2zq => assumption); (case p3zq => assumption); k_whole; intro _ _ _ _ _ _ _ _ _ _ _ _ _ _ _ _ _ _; (try k_sweep)))
  k_with "call ref" => (k_here; (with_reducible show wpAny _ _ (call (Value.ref 487) _) _ _ _); k_dflt (refine' law_one_spec ?cBzq ?cFzq ?cXzq ?cNzq ?cTzq ?ckzq ?cdzq ?cuzq ?p0zq ?p1zq ?p2zq ?p3zq ?p4zq ?p5zq ?p6zq ?_; (case cBzq => k_asm); (case cFzq => k_asm); (case cXzq => k_asm); (case cNzq => k_asm); (case cTzq => k_asm); (case ckzq => first | rfl | assumption); (case cdzq => k_extra "om"); (case cuzq => k_extra "om"); (case p0zq => (first | exact Split.head | (apply Split.tail; first | exact Split.head | (apply Split.tail; first | exact Split.head | (apply Split.tail; first | exact Split.head | (repeat (first | exact Split.head | apply Split.tail))))))); (case p1zq => (repeat' (first | exact Apart.nil | assumption | refine Apart.append ?_ ?_ | refine Apart.cons ?_ ?_ | exact ne_of_cls (by k_asm) (by k_mem) (by k_mem) (by intro hq; exact absurd (Value.type.inj hq) (by decide)) | exact ne_of_data (by k_asm) (by k_mem) (by k_mem) (by intro hq; cases hq)))); (case p2zq => assumption); (case p3zq => assumption); (case p4zq => (exact News.isList (by k_asm) (by k_mem))); (case p5zq => (exact ne_of_data (by k_asm) (by k_mem) (by k_mem) (by intro hq; cases hq))); (case p6zq => (constructor <;> (simp only [List.length_cons, List.length_nil]; omega))); k_whole; intro x9 z09 z19 v19 v29 n9 s9 b91 b92 b93 S9 F9 N9; (obtain ⟨k9, t9, e9⟩ := menu_kind b93; subst e9; clear b93); (revert z09 z19 v19 v29 n9 s9 b91 b92 S9 F9 N9 k9 t9; intros); (try k_sweep)))
  k_with "call ref" => (k_here; (with_reducible show wpAny _ _ (call (Value.ref 108) _) _ _ _); k_dflt (refine' fraction_spec ?cBzq ?cFzq ?cXzq ?cNzq ?cTzq ?ckzq ?cdzq ?cuzq ?p0zq ?p1zq ?p2zq ?_; (case cBzq => k_asm); (case cFzq => k_asm); (case cXzq => k_asm); (case cNzq => k_asm); (case cTzq => k_asm); (case ckzq => first | rfl | assumption); (case cdzq => k_extra "om"); (case cuzq => k_extra "om"); (case p0zq => k_extra "om"); (case p1zq => k_extra "om"); (case p2zq => k_extra "om"); k_whole; intro _ _ _ _ _ _ _; (try k_sweep)))
  trivial
theorem known_drawns {g h : Heap} {L : Addr} {m : Str → Option Value} {pin l : List (Addr × Obj)} {v : Value} {rows : List Row} (K : Known g L pin (fun h => DrawnsAt h v rows)) (F : Fr g L h m) (N : News g L h l) (hs : ∀ q ∈ pin, q ∈ l) : DrawnsAt h v rows := K _ _ _ F N hs
theorem rl_LawZ_7 : True := by
  k_with "call ref" => (k_here; (with_reducible show wpAny _ _ (call (Value.ref 499) _) _ _ _); k_dflt (refine' law_ordered_spec ?cBzq ?cFzq ?cXzq ?cNzq ?cTzq ?ckzq ?cdzq ?cuzq ?p0zq ?p1zq ?p2zq ?_; (case cBzq => k_asm); (case cFzq => k_asm); (case cXzq => k_asm); (case cNzq => k_asm); (case cTzq => k_asm); (case ckzq => first | rfl | assumption); (case cdzq => k_extra "om"); (case cuzq => k_extra "om"); (case p0zq => (exact known_drawns (by assumption) (by k_asm) (by k_asm) (by (intro q hq; simp only [List.mem_cons, List.mem_append, hq, or_true, true_or])))); (case p1zq => k_extra "om"); (case p2zq => assumption); k_whole; intro v9 own9 s9 H9 G9 S9 F9 N9; (have A9 := fresh_led (by assumption) G9); clear G9; (revert v9 own9 s9 H9 S9 F9 N9 A9; intros); (try k_sweep)))
  trivial
theorem belowF {g h : Heap} {L : Addr} {m : Str → Option Value} (F : Fr g L h m) : Below callerA g [] g := below_caller g
theorem final : PySem.Challenge.rw_nu0030_01.Holds := by
  refine hd (by
    k_fill
    intro w s0 s1 mg mb G Y fa o pm cd doc dV kV ho hd hcd hD hmg hg args vals as hpre hlay hrd hwl hlo
    have KX := kIn_of Y
    have X := (Ground.X G).1
    have V := (Ground.X G).2
    have GL := glob_more (Ground.glob G (by decide +kernel) (by decide +kernel)) V
    refine Ground.open G ?_
    intro T B D TE TW
    try (refine guard_noD D (by decide +kernel) ?_; clear D)
    obtain ⟨_, _, M⟩ := bmod_of_top T
    have TA := at_of_top T
    try (obtain ⟨_, _, he, B0⟩ := based_of_top T rfl hmg ho hd; have he' : cd = _ := he; subst he'; clear he)
    clear hmg
    wrow_args hpre hlay hrd hwl hlo
    all_goals (
      first | refine callC_kw (enter_call ?_) | refine enter_call ?_ | refine callC_kw (enter_callW ?_) | refine enter_callW ?_ | w_how
      w_top on
      try refine codeAny_mono ?_ (fun _ _ g => GoodW.toG g)
      have K0 := below_caller (Top.heap T)
      w_call any ho hd hcd hD T F
      clear hd TA
      k_drop
      skip)
    all_goals try k_fold
    rename_i ns _ _ _ _ _ _ _ sc vs _ hL _ _ _ hI _ hcond _ h1 N0
    show wpAny _ (ktrTop 302 7 (some []) (Str.ofString "law") _ _ _ _ [] []) _ _ _ _
    have hrl : 302 + 40 < recursionLimit := by decide
    have hcl : 7 + 800 < cLine := by decide
    have zB := belowF F
    have hlen : vs.length ≤ 63 := by
      have := hI.length
      omega
    clear K0 hcond
    k_extra "S"
    rename News _ _ _ _ => N2
    rename Fr _ _ _ _ => F2
    rename_i src _ _ _ _ _ _ _ _ _ _ _ vl rows own z0 z1 u0 u1 nn _ b1 b2 hap hDr hrl hrr _ _ _ _ y0 y1 w0 w1 n1 _ c1 c2 _ k t9 _ _ _ _ _ _ h2 _
    refine hideG fun Gzq kzq => ?_
    obtain ⟨led, mm, N3, F3, hsrc, ho, g1, g2, g3⟩ : ∃ led mm, News s1.heap s1.heap.objs.size h2.heap led ∧ Fr s1.heap s1.heap.objs.size h2.heap mm ∧ (src, listOf #[.int y0 w0, .int y1 w1] n1) ∈ led ∧ (∀ q ∈ own, q ∈ led) ∧
        mm (Str.ofString "source") = some (.ref src) ∧ mm (Str.ofString "stops") = some vl ∧ mm (Str.ofString "kind") = some (.str k.str t9) :=
      ⟨_, _, N2, F2, by k_mem, fun q hq => by simp only [List.mem_cons, List.mem_append, hq, or_true, true_or], rfl, rfl, rfl⟩
    refine kzq ?_
    clear kzq Gzq
    clear N2 F2
    refine hideG fun Gzq kzq => ?_
    obtain ⟨l, vr, n0, rfl, hml, hpd⟩ := id hDr
    refine kzq ?_
    clear kzq Gzq
    have hpl := hpd.length
    (try k_unmd); k_fold
    refine comp_assign (by with_unfolding_all rfl) rfl rfl (by decide) ?_
    k_extra "S"
    refine comp_list (l := l) (vs := vr) (pin := led) (nw := []) rfl (News.isList N3 (ho _ hml)) (.inr ⟨_, ho _ hml⟩) (by decide) rfl
      (fun i ys acc => ys.length ≤ i ∧ i ≤ vr.length ∧ Apart src acc ∧ Paired (ToldIn w (acc ++ own)) ys (rows.take i)) F3 (by rw [List.append_nil]; exact N3) ⟨Nat.le_refl _, Nat.zero_le _, Apart.nil, by simpa using Paired.nil⟩
      (by rintro i ys acc ⟨h, h', _⟩; rw [sizeLine_eq]; (first | exact le_by (by assumption) (by assumption) (by rfl) | exact le_by2 (by assumption) (by assumption) (by rfl) | exact le_by3 (by assumption) (by assumption) (by assumption) (by rfl) | omega)) ?_ ?_
    · intro D C I i v hlt' hID hDC hv ys acc s9 oI oC oD mC hJ hne hoD ⟨fI, hoI⟩ S9 F N hC
      refine hideG fun Gzq kzq => ?_
      obtain ⟨hlen2, hi3, hap2, hys⟩ := hJ
      refine kzq ?_
      clear kzq Gzq
      rw [List.append_nil] at hlt'
      refine hideG fun Gzq kzq => ?_
      obtain ⟨x, hx, a1, t1, b, t2, d1, d2, d3, rfl, m1, m2⟩ := paired_get hpd i v hv
      obtain ⟨hxok, hx1, hx2⟩ := hrr x (List.mem_of_getElem? hx)
      refine kzq ?_
      clear kzq Gzq
      have hil : i < vr.length := (List.getElem?_eq_some_iff.mp hv).1
      refine assign_comp3 rfl (News.isTup N (.tail _ (.tail _ (.tail _ (List.mem_append_left _ (ho _ m1)))))) rfl rfl rfl rfl F N (Nat.ne_of_lt hDC) ?_ hC (fun h5 oC2 S2 F5 N5 hC2 => ?_)
      · intro p hp
        rcases List.mem_cons.mp hp with rfl | hp
        · exact Nat.ne_of_lt (Nat.lt_trans hID hDC)
        · rcases List.mem_append.mp hp with hp | hp
          · exact Nat.ne_of_lt (Nat.lt_trans (hlt' p hp) (Nat.lt_trans hID hDC))
          · exact (hne p hp).2.1
      refine wpAny_tests_nil ?_
      simp only [if_true]
      clear F N N3 F3 hC
      have hO : h5.heap.get? C = some oC2 := (N5 _ (.tail _ (.head _))).1
      refine hideG fun Gzq kzq => ?_
      obtain ⟨esC, epC, hdC⟩ : ∃ es ep, oC2.data = .dict es ep := by
        obtain ⟨oX, es, ep, hoX, hdX, _⟩ := hC2
        rw [hO] at hoX
        cases hoX
        exact ⟨es, ep, hdX⟩
      refine kzq ?_
      clear kzq Gzq
      k_extra "S"
      rename News _ _ _ _ => N9
      rename_i r9 e1 e2 _ _ tt _ _ _
      refine hideG fun Gzq kzq => ?_
      obtain ⟨e3, N9⟩ : ∃ e3, News s1.heap s1.heap.objs.size _ ((tt, ({ cls := .type "tuple", data := .seq #[.ref r9, .ref b, .int x.al e3] } : Obj)) :: (r9, frO x.o 8 e1 e2) :: (D, oD) :: (C, oC2) :: (I, oI) :: (led ++ acc)) := ⟨_, N9⟩
      refine kzq ?_
      clear kzq Gzq
      have hsr : (src, listOf #[.int y0 w0, .int y1 w1] n1) ∈ (tt, ({ cls := .type "tuple", data := .seq #[.ref r9, .ref b, .int x.al e3] } : Obj)) :: (r9, frO x.o 8 e1 e2) :: (D, oD) :: (C, oC2) :: (I, oI) :: (led ++ acc) :=
        .tail _ (.tail _ (.tail _ (.tail _ (.tail _ (List.mem_append_left _ hsrc)))))
      have mD : (D, oD) ∈ (tt, ({ cls := .type "tuple", data := .seq #[.ref r9, .ref b, .int x.al e3] } : Obj)) :: (r9, frO x.o 8 e1 e2) :: (D, oD) :: (C, oC2) :: (I, oI) :: (led ++ acc) := .tail _ (.tail _ (.head _))
      have mC : (C, oC2) ∈ (tt, ({ cls := .type "tuple", data := .seq #[.ref r9, .ref b, .int x.al e3] } : Obj)) :: (r9, frO x.o 8 e1 e2) :: (D, oD) :: (C, oC2) :: (I, oI) :: (led ++ acc) := .tail _ (.tail _ (.tail _ (.head _)))
      have mI : (I, oI) ∈ (tt, ({ cls := .type "tuple", data := .seq #[.ref r9, .ref b, .int x.al e3] } : Obj)) :: (r9, frO x.o 8 e1 e2) :: (D, oD) :: (C, oC2) :: (I, oI) :: (led ++ acc) := .tail _ (.tail _ (.tail _ (.tail _ (.head _))))
      have cD : ∀ q : Addr × Obj, q ∈ (tt, ({ cls := .type "tuple", data := .seq #[.ref r9, .ref b, .int x.al e3] } : Obj)) :: (r9, frO x.o 8 e1 e2) :: (D, oD) :: (C, oC2) :: (I, oI) :: (led ++ acc) → q.2.cls = .type "tuple" → (∃ xs n, q.2.data = .seq xs n) → (q.1 ≠ D ∧ q.1 ≠ C ∧ q.1 ≠ I) ∧ q.1 ≠ src := fun q hq hc ⟨xs, nq, hd⟩ =>
        ⟨⟨ne_of_cls N9 hq mD (by rw [hc, hoD]; intro h; exact absurd (Value.type.inj h) (by decide)), ne_of_data N9 hq mC (by rw [hd, hdC]; intro h; cases h), ne_of_data N9 hq mI (by rw [hd, hoI]; intro h; cases h)⟩,
          ne_of_cls N9 hq hsr (by rw [hc]; intro h; exact absurd (Value.type.inj h) (by decide))⟩
      have cT := cD _ (.head _) rfl ⟨_, _, rfl⟩
      have cR := cD _ (.tail _ (.head _)) rfl ⟨_, _, rfl⟩
      have htake : rows.take (i + 1) = rows.take i ++ [x] := by rw [List.take_add_one, hx]; rfl
      refine CompOut.mk _ ((tt, ({ cls := .type "tuple", data := .seq #[.ref r9, .ref b, .int x.al e3] } : Obj)) :: (r9, frO x.o 8 e1 e2) :: acc) _ oC2 (by k_extra "sm") (by assumption) N9 mD mC mI (hC2.at' fun o e => ?_) ?_ (all_cons (.head _) (all_cons (.tail _ (.head _)) fun q hq => .tail _ (.tail _ (.tail _ (.tail _ (.tail _ (List.mem_append_right _ hq))))))) (all_cons cT.1 (all_cons cR.1 hne)) ⟨?_, hil, Apart.cons cT.2 (Apart.cons cR.2 hap2), ?_⟩
      · rw [hO] at e; cases e; exact (N9 _ mC).1
      · exact fun q hq => .tail _ (.tail _ (.tail _ (.tail _ (.tail _ (List.mem_append_left _ hq)))))
      · rw [List.length_append, List.length_singleton]; omega
      · rw [htake]
        exact Paired.snoc (paired_mono (fun _ _ q => q.more fun q hq => .tail _ (.tail _ hq)) hys) ⟨tt, .ref r9, .ref b, e3, rfl, fun h _ hq => ⟨_, hq _ (.head _), rfl, _, rfl⟩, fun h _ hq => ⟨r9, e1, e2, rfl, _, hq _ (.tail _ (.head _)), rfl, _, rfl⟩,
          fun h _ hq => ⟨b, d1, d2, d3, rfl, _, hq _ (List.mem_append_right (_ :: _ :: _) m2), rfl, _, rfl⟩⟩
    · intro D C ys acc s9 oC mC nD hDC hr9 hJ S9 F N hC
      refine hideG fun Gzq kzq => ?_
      obtain ⟨_, _, hap2, hys⟩ := hJ
      refine kzq ?_
      clear kzq Gzq
      clear F3 N3
      refine done_assign (L := s1.heap.objs.size) ?y1 ?y2 ?y3 hDC hr9 F N hC ?y4
      case y1 => rfl
      case y2 => rfl
      case y3 => rfl
      intro h5 S3 F5 N5
      rw [hpl, List.take_length] at hys
      have hDs : D ≠ src := fun e => (hr9 _ (List.mem_append_left _ hsrc)).1 e.symm
      clear F N hr9 hC hDC
      have KD : Known s1.heap s1.heap.objs.size own (fun h => DrawnsAt h (.ref l) rows) := fun h m' l' F N hs => hDr.at fun q hq => (N _ (hs q hq)).1
      replace KD := KD.more ho
      (repeat' ((fail_if_success (with_reducible show wpAny _ _ (call (Value.ref 551) _) _ _ _)); (fail_if_success (with_reducible show wpAny _ _ (exec (Stmt.While _ _ _ _) _) _ _ _)); (fail_if_success (with_reducible show wpAny _ _ (exec (Stmt.For _ _ _ _ _) _) _ _ _)); (fail_if_success (with_reducible show wpAny _ _ (eval (Expr.ListComp _ _ _ _) _) _ _ _)); (fail_if_success (with_reducible show wpAny _ _ (exec (Stmt.Assign _ (Expr.ListComp _ _ _ _) _) _) _ _ _)); (fail_if_success (with_reducible show wpAny _ _ (call (Value.builtin "list.append") _) _ _ _)); (fail_if_success (with_reducible show RetM _ _ _ _ _ _ _ _ _)); (fail_if_success (with_reducible show wpAny _ _ (pyIter _) _ _ _)); first | (k_unfold; (try dsimp only)) | (k_end; wrow_close) | walk1 | (dsimp only; walk1) | fail "no step"))
      rename News _ _ _ _ => N6
      rename Fr _ _ _ _ => F6
      rename_i vo oO _ HO _ AO h6 _
      refine hideG fun Gzq kzq => ?_
      obtain ⟨bs, N7, hapb, hls, hbO, hbw, mm6, F7, j1, j2, j3, j4⟩ : ∃ bs, News s1.heap s1.heap.objs.size h6.heap ((src, listOf #[.int y0 w0, .int y1 w1] n1) :: bs) ∧ Apart src bs ∧ (D, listOf ys.toArray nD) ∈ bs ∧ (∀ q ∈ oO, q ∈ bs) ∧ (∀ q ∈ acc ++ own, q ∈ bs) ∧
          ∃ mm, Fr s1.heap s1.heap.objs.size h6.heap mm ∧ mm (Str.ofString "source") = some (.ref src) ∧ mm (Str.ofString "ordered") = some vo ∧ mm (Str.ofString "kind") = some (.str k.str t9) ∧ mm (Str.ofString "told") = some (.ref D) := by
        refine ⟨oO ++ (D, listOf ys.toArray nD) :: (acc ++ own), fun q hq => N6 q ?_, Apart.append (fun q hq => AO _ (.tail _ (List.mem_append_left _ hsrc)) q hq) (Apart.cons hDs (Apart.append hap2 hap)), List.mem_append_right _ (.head _), fun q hq => List.mem_append_left _ hq, fun q hq => List.mem_append_right _ (.tail _ hq), _, F6, g1, rfl, g3, rfl⟩
        rcases List.mem_cons.mp hq with rfl | hq
        · exact List.mem_append_right _ (.tail _ (List.mem_append_left _ hsrc))
        · rcases List.mem_append.mp hq with hq | hq
          · exact List.mem_append_left _ hq
          · rcases List.mem_cons.mp hq with rfl | hq
            · exact List.mem_append_right _ (.head _)
            · rcases List.mem_append.mp hq with hq | hq
              · exact List.mem_append_right _ (.tail _ (List.mem_append_right _ hq))
              · exact List.mem_append_right _ (.tail _ (List.mem_append_left _ (ho _ hq)))
      refine kzq ?_
      clear kzq Gzq
      have ht : RowsIn w bs (.ref D) rows := ⟨D, ys, rfl, fun h _ hq => ⟨_, hq _ hls, rfl, _, rfl⟩, paired_mono (fun _ _ q => q.more hbw) hys⟩
      have hlo : Holds w bs (fun h => OrdsAt h vo (ordF 0 rows)) := HO.more hbO
      clear N6 F6 HO AO KD hys
      refine law_odd_right_spec zB F7 KX N7 T rfl (by k_extra "om") (by k_extra "om") KX T (fun b hb => nomatch hb) (fun q hq => (N7 q (.tail _ hq)).1) (fun q hq => .tail _ hq) ht hlo hrr hrl ?_
      intro g2 s7 S7 KT F8 N8 B2 X2 T2 D2
      (repeat' ((fail_if_success (with_reducible show wpAny _ _ (call (Value.ref 530) _) _ _ _)); (fail_if_success (with_reducible show wpAny _ _ (exec (Stmt.While _ _ _ _) _) _ _ _)); (fail_if_success (with_reducible show wpAny _ _ (exec (Stmt.For _ _ _ _ _) _) _ _ _)); (fail_if_success (with_reducible show wpAny _ _ (eval (Expr.ListComp _ _ _ _) _) _ _ _)); (fail_if_success (with_reducible show wpAny _ _ (exec (Stmt.Assign _ (Expr.ListComp _ _ _ _) _) _) _ _ _)); (fail_if_success (with_reducible show wpAny _ _ (call (Value.builtin "list.append") _) _ _ _)); (fail_if_success (with_reducible show RetM _ _ _ _ _ _ _ _ _)); (fail_if_success (with_reducible show wpAny _ _ (pyIter _) _ _ _)); first | (k_unfold; (try dsimp only)) | (k_end; wrow_close) | walk1 | (dsimp only; walk1) | fail "no step"))
      rename News g2 _ _ _ => N9
      rename Fr g2 _ _ _ => F9
      refine law_line_right_spec B2 F9 X2 N9 T2 rfl (by k_extra "om") (by k_extra "om") .head hapb (by assumption) (by assumption) (fun q hq => (N9 q (.tail _ hq)).1) hapb ht hlo hrr hrl ?_
      intro z0 z1 v1 v2 n2 s8 hz0 hz1 S8 Fa Na
      (try clear F9); (try clear N9)
      (repeat' ((fail_if_success (with_reducible show wpAny _ _ (call (Value.ref 537) _) _ _ _)); (fail_if_success (with_reducible show wpAny _ _ (exec (Stmt.While _ _ _ _) _) _ _ _)); (fail_if_success (with_reducible show wpAny _ _ (exec (Stmt.For _ _ _ _ _) _) _ _ _)); (fail_if_success (with_reducible show wpAny _ _ (eval (Expr.ListComp _ _ _ _) _) _ _ _)); (fail_if_success (with_reducible show wpAny _ _ (exec (Stmt.Assign _ (Expr.ListComp _ _ _ _) _) _) _ _ _)); (fail_if_success (with_reducible show wpAny _ _ (call (Value.builtin "list.append") _) _ _ _)); (fail_if_success (with_reducible show RetM _ _ _ _ _ _ _ _ _)); (fail_if_success (with_reducible show wpAny _ _ (pyIter _) _ _ _)); first | (k_unfold; (try dsimp only)) | (k_end; wrow_close) | walk1 | (dsimp only; walk1) | fail "no step"))
      rename News g2 _ _ _ => Nb
      rename Fr g2 _ _ _ => Fb
      refine law_round_right_spec B2 Fb X2 Nb T2 rfl (by k_extra "om") (by k_extra "om") .head hapb (by assumption) (by assumption) (fun q hq => (Nb q (.tail _ hq)).1) hapb ht hlo hrr hrl ?_
      intro z2 z3 v3 v4 n3 s9 hz2 hz3 S9 Fc Nc
      have S10 : Sm s1 s9 := (by k_extra "sm")
      refine hideG fun Gzq kzq => ?_
      obtain ⟨h9, g9, d9, t9, o9⟩ := s9
      obtain ⟨e9, e8⟩ := S10
      refine kzq ?_
      clear kzq Gzq
      dsimp only at e9 e8
      subst e9; subst e8
      (try clear Fb); (try clear Nb)
      have Fd : Fr s1.heap s1.heap.objs.size h9 _ := ⟨Fc.ns, fun b o e => Fc.keep _ _ (KT.other _ _ e (fun hb => nomatch hb)), by have := Fc.above; rw [KT.size] at this; exact this⟩
      have Nd : News s1.heap s1.heap.objs.size h9 [] := fun _ h => nomatch h
      clear Fc Nc
      k_extra "S")
end
end Mine

theorem PySem.Challenge.cw_nu0030_01_holds : PySem.Challenge.rw_nu0030_01.Holds := by
  exact Mine.final
