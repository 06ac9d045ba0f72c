import PyProof.Rows.All
import Wide.All
import OpenK.AllK
import Wide.FinOn
import KE.KEqDict
import PyProof.ExcBaseAll.Exception
import PyProof.StationsW
import Lean
import PySem.Challenge.RW_sa0247_01
set_option Elab.async false
set_option genInjectivity false
set_option genSizeOfSpec false
set_option maxRecDepth 100000
set_option maxHeartbeats 0
set_option linter.unusedVariables false
noncomputable section
namespace Mine.H
open PySem PySem.W
noncomputable abbrev pw : Program := PySem.Challenge.pw_sa0247_01
noncomputable def ke (P : Params) (x : Str) (t : Nat) (v : Value) : DictEntry := ⟨PyData.keyHash P x, .str x t, v⟩
noncomputable def nth : List Stmt → Nat → Stmt
  | [], _ => default
  | x :: _, 0 => x
  | _ :: r, n + 1 => nth r n
noncomputable def top : List Stmt := behindTheImports pw
noncomputable def st (i : Nat) : Stmt := nth pw.main.body i
noncomputable def cBody : Stmt → List Stmt
  | .ClassDef _ _ _ b _ _ _ _ _ _ _ => b
  | _ => []
noncomputable def me (i j : Nat) : Stmt := nth (cBody (st i)) j
noncomputable def fArgs : Stmt → Arguments
  | .FunctionDef _ a _ _ _ _ _ _ _ _ => a
  | _ => default
noncomputable def fBody : Stmt → List Stmt
  | .FunctionDef _ _ b _ _ _ _ _ _ _ => b
  | _ => default
noncomputable def fScope : Stmt → Scope
  | .FunctionDef _ _ _ _ _ _ s _ _ _ => s
  | _ => default
noncomputable def fd (s : Stmt) (name qual : Str) (g b : Addr) (pm code : Value) : FuncData :=
  { name := name, qualname := qual, params := fArgs s, body := .stmts (fBody s), scope := fScope s, globals := g, closure := [], defaults := .none, kwdefaults := .none, doc := .none, pyModule := pm, annotations := none, code := code, closureTuple := .none, builtins := b }
noncomputable def cd (name : Str) (bases mro : List Value) (ns : Addr) (qual : Str) (hasDict : Bool) (subs : List Value) (hasDel : Bool) : ClassData :=
  { name := name, bases := bases, mro := mro, ns := ns, qualname := qual, hasDict := hasDict, slotNames := [], subclasses := subs, abstract := false, collection := none, hasDel := hasDel }
noncomputable def insAll : BT → Nat → List Obj → BT
  | t, _, [] => t
  | t, n, o :: r => insAll (t.ins n o) (n + 1) r
noncomputable def setAll : BT → List (Nat × Obj) → BT
  | t, [] => t
  | t, p :: r => setAll (t.set p.1 fun _ => p.2) r
noncomputable def z0 : Str := ⟨⟨[nat_lit 60, nat_lit 109, nat_lit 111, nat_lit 100, nat_lit 117, nat_lit 108, nat_lit 101, nat_lit 62]⟩⟩
noncomputable def z1 : Str := ⟨⟨[nat_lit 47, nat_lit 99, nat_lit 108, nat_lit 97, nat_lit 105, nat_lit 109, nat_lit 47, nat_lit 99, nat_lit 117, nat_lit 116, nat_lit 46, nat_lit 112, nat_lit 121]⟩⟩
noncomputable def z2 : Str := ⟨⟨[nat_lit 95, nat_lit 95, nat_lit 109, nat_lit 97, nat_lit 105, nat_lit 110, nat_lit 95, nat_lit 95]⟩⟩
noncomputable def z3 : Str := ⟨⟨[nat_lit 116, nat_lit 121, nat_lit 112, nat_lit 101, nat_lit 46, nat_lit 95, nat_lit 95, nat_lit 115, nat_lit 117, nat_lit 98, nat_lit 99, nat_lit 108, nat_lit 97, nat_lit 115, nat_lit 115, nat_lit 101, nat_lit 115, nat_lit 95, nat_lit 95, nat_lit 46, nat_lit 69, nat_lit 120, nat_lit 99, nat_lit 101, nat_lit 112, nat_lit 116, nat_lit 105, nat_lit 111, nat_lit 110, nat_lit 46, nat_lit 110]⟩⟩
noncomputable def z4 : Str := ⟨⟨[nat_lit 116, nat_lit 121, nat_lit 112, nat_lit 101, nat_lit 46, nat_lit 95, nat_lit 95, nat_lit 115, nat_lit 117, nat_lit 98, nat_lit 99, nat_lit 108, nat_lit 97, nat_lit 115, nat_lit 115, nat_lit 101, nat_lit 115, nat_lit 95, nat_lit 95, nat_lit 46, nat_lit 69, nat_lit 120, nat_lit 99, nat_lit 101, nat_lit 112, nat_lit 116, nat_lit 105, nat_lit 111, nat_lit 110, nat_lit 46, nat_lit 48]⟩⟩
noncomputable def z5 : Str := ⟨⟨[nat_lit 95, nat_lit 95, nat_lit 100, nat_lit 111, nat_lit 99, nat_lit 95, nat_lit 95]⟩⟩
noncomputable def z6 : Str := ⟨⟨[nat_lit 95, nat_lit 95, nat_lit 112, nat_lit 97, nat_lit 99, nat_lit 107, nat_lit 97, nat_lit 103, nat_lit 101, nat_lit 95, nat_lit 95]⟩⟩
noncomputable def z7 : Str := ⟨⟨[nat_lit 95, nat_lit 95, nat_lit 108, nat_lit 111, nat_lit 97, nat_lit 100, nat_lit 101, nat_lit 114, nat_lit 95, nat_lit 95]⟩⟩
noncomputable def z8 : Str := ⟨⟨[nat_lit 95, nat_lit 95, nat_lit 115, nat_lit 112, nat_lit 101, nat_lit 99, nat_lit 95, nat_lit 95]⟩⟩
noncomputable def z9 : Str := ⟨⟨[nat_lit 95, nat_lit 95, nat_lit 97, nat_lit 110, nat_lit 110, nat_lit 111, nat_lit 116, nat_lit 97, nat_lit 116, nat_lit 105, nat_lit 111, nat_lit 110, nat_lit 115, nat_lit 95, nat_lit 95]⟩⟩
noncomputable def z10 : Str := ⟨⟨[nat_lit 95, nat_lit 95, nat_lit 98, nat_lit 117, nat_lit 105, nat_lit 108, nat_lit 116, nat_lit 105, nat_lit 110, nat_lit 115, nat_lit 95, nat_lit 95]⟩⟩
noncomputable def z11 : Str := ⟨⟨[nat_lit 95, nat_lit 95, nat_lit 102, nat_lit 105, nat_lit 108, nat_lit 101, nat_lit 95, nat_lit 95]⟩⟩
noncomputable def z12 : Str := ⟨⟨[nat_lit 95, nat_lit 95, nat_lit 99, nat_lit 97, nat_lit 99, nat_lit 104, nat_lit 101, nat_lit 100, nat_lit 95, nat_lit 95]⟩⟩
noncomputable def z13 : Str := ⟨⟨[nat_lit 95, nat_lit 119, nat_lit 97, nat_lit 108, nat_lit 108]⟩⟩
noncomputable def z14 : Str := ⟨⟨[nat_lit 82, nat_lit 117, nat_lit 110, nat_lit 101, nat_lit 69, nat_lit 114, nat_lit 114, nat_lit 111, nat_lit 114]⟩⟩
noncomputable def z15 : Str := ⟨⟨[nat_lit 95, nat_lit 95, nat_lit 110, nat_lit 97, nat_lit 109, nat_lit 101, nat_lit 95, nat_lit 95]⟩⟩
noncomputable def z16 : Str := ⟨⟨[nat_lit 102, nat_lit 114, nat_lit 97, nat_lit 109, nat_lit 101, nat_lit 114, nat_lit 117, nat_lit 110, nat_lit 101, nat_lit 46, nat_lit 102, nat_lit 97, nat_lit 117, nat_lit 108, nat_lit 116, nat_lit 115]⟩⟩
noncomputable def z17 : Str := ⟨⟨[nat_lit 107]⟩⟩
noncomputable def z18 : Str := ⟨⟨[nat_lit 95, nat_lit 95, nat_lit 113, nat_lit 117, nat_lit 97, nat_lit 108, nat_lit 110, nat_lit 97, nat_lit 109, nat_lit 101, nat_lit 95, nat_lit 95]⟩⟩
noncomputable def z19 : Str := ⟨⟨[nat_lit 95, nat_lit 95, nat_lit 102, nat_lit 105, nat_lit 114, nat_lit 115, nat_lit 116, nat_lit 108, nat_lit 105, nat_lit 110, nat_lit 101, nat_lit 110, nat_lit 111, nat_lit 95, nat_lit 95]⟩⟩
noncomputable def z20 : Str := ⟨⟨[nat_lit 95, nat_lit 95, nat_lit 105, nat_lit 110, nat_lit 105, nat_lit 116, nat_lit 95, nat_lit 95]⟩⟩
noncomputable def z21 : Str := ⟨⟨[nat_lit 95, nat_lit 95, nat_lit 115, nat_lit 116, nat_lit 97, nat_lit 116, nat_lit 105, nat_lit 99, nat_lit 95, nat_lit 97, nat_lit 116, nat_lit 116, nat_lit 114, nat_lit 105, nat_lit 98, nat_lit 117, nat_lit 116, nat_lit 101, nat_lit 115, nat_lit 95, nat_lit 95]⟩⟩
noncomputable def z22 : Str := ⟨⟨[nat_lit 95, nat_lit 95, nat_lit 109, nat_lit 111, nat_lit 100, nat_lit 117, nat_lit 108, nat_lit 101, nat_lit 95, nat_lit 95]⟩⟩
noncomputable def z23 : Str := ⟨⟨[nat_lit 115, nat_lit 101, nat_lit 108, nat_lit 102]⟩⟩
noncomputable def z24 : Str := ⟨⟨[nat_lit 99, nat_lit 111, nat_lit 100, nat_lit 101]⟩⟩
noncomputable def z25 : Str := ⟨⟨[nat_lit 97, nat_lit 116]⟩⟩
noncomputable def z26 : Str := ⟨⟨[nat_lit 82, nat_lit 117, nat_lit 110, nat_lit 101, nat_lit 69, nat_lit 114, nat_lit 114, nat_lit 111, nat_lit 114, nat_lit 46, nat_lit 95, nat_lit 95, nat_lit 105, nat_lit 110, nat_lit 105, nat_lit 116, nat_lit 95, nat_lit 95]⟩⟩
noncomputable def z27 : Str := ⟨⟨[nat_lit 95, nat_lit 95, nat_lit 119, nat_lit 101, nat_lit 97, nat_lit 107, nat_lit 114, nat_lit 101, nat_lit 102, nat_lit 95, nat_lit 95]⟩⟩
noncomputable def z28 : Str := ⟨⟨[nat_lit 66, nat_lit 97, nat_lit 100, nat_lit 75, nat_lit 105, nat_lit 110, nat_lit 100]⟩⟩
noncomputable def z29 : Str := ⟨⟨[nat_lit 76, nat_lit 101, nat_lit 102, nat_lit 116, nat_lit 79, nat_lit 117, nat_lit 116]⟩⟩
noncomputable def z30 : Str := ⟨⟨[nat_lit 86, nat_lit 79, nat_lit 73, nat_lit 68]⟩⟩
noncomputable def z31 : Str := ⟨⟨[nat_lit 66, nat_lit 79, nat_lit 79, nat_lit 76]⟩⟩
noncomputable def z32 : Str := ⟨⟨[nat_lit 67, nat_lit 72, nat_lit 65, nat_lit 82]⟩⟩
noncomputable def z33 : Str := ⟨⟨[nat_lit 73, nat_lit 49]⟩⟩
noncomputable def z34 : Str := ⟨⟨[nat_lit 85, nat_lit 49]⟩⟩
noncomputable def z35 : Str := ⟨⟨[nat_lit 73, nat_lit 50]⟩⟩
noncomputable def z36 : Str := ⟨⟨[nat_lit 85, nat_lit 50]⟩⟩
noncomputable def z37 : Str := ⟨⟨[nat_lit 73, nat_lit 52]⟩⟩
noncomputable def z38 : Str := ⟨⟨[nat_lit 85, nat_lit 52]⟩⟩
noncomputable def z39 : Str := ⟨⟨[nat_lit 73, nat_lit 56]⟩⟩
noncomputable def z40 : Str := ⟨⟨[nat_lit 85, nat_lit 56]⟩⟩
noncomputable def z41 : Str := ⟨⟨[nat_lit 78, nat_lit 73, nat_lit 78, nat_lit 84]⟩⟩
noncomputable def z42 : Str := ⟨⟨[nat_lit 79, nat_lit 66, nat_lit 74, nat_lit 69, nat_lit 67, nat_lit 84]⟩⟩
noncomputable def z43 : Str := ⟨⟨[nat_lit 83, nat_lit 84, nat_lit 82, nat_lit 73, nat_lit 78, nat_lit 71]⟩⟩
noncomputable def z44 : Str := ⟨⟨[nat_lit 78, nat_lit 85, nat_lit 76, nat_lit 76, nat_lit 75]⟩⟩
noncomputable def z45 : Str := ⟨⟨[nat_lit 66, nat_lit 65, nat_lit 68]⟩⟩
noncomputable def z46 : Str := ⟨⟨[nat_lit 80, nat_lit 82, nat_lit 73, nat_lit 77, nat_lit 95, nat_lit 69, nat_lit 78, nat_lit 68]⟩⟩
noncomputable def z47 : Str := ⟨⟨[nat_lit 82, nat_lit 95, nat_lit 80, nat_lit 82, nat_lit 73, nat_lit 77]⟩⟩
noncomputable def z48 : Str := ⟨⟨[nat_lit 82, nat_lit 95, nat_lit 67, nat_lit 76, nat_lit 65, nat_lit 83, nat_lit 83]⟩⟩
noncomputable def z49 : Str := ⟨⟨[nat_lit 102, nat_lit 114, nat_lit 97, nat_lit 109, nat_lit 101, nat_lit 114, nat_lit 117, nat_lit 110, nat_lit 101, nat_lit 46, nat_lit 107, nat_lit 105, nat_lit 110, nat_lit 100, nat_lit 115]⟩⟩
noncomputable def z50 : Str := ⟨⟨[nat_lit 82, nat_lit 95, nat_lit 86, nat_lit 65, nat_lit 76, nat_lit 85, nat_lit 69]⟩⟩
noncomputable def z51 : Str := ⟨⟨[nat_lit 82, nat_lit 95, nat_lit 65, nat_lit 82, nat_lit 82, nat_lit 65, nat_lit 89]⟩⟩
noncomputable def z52 : Str := ⟨⟨[nat_lit 82, nat_lit 95, nat_lit 66, nat_lit 89, nat_lit 82, nat_lit 69, nat_lit 70]⟩⟩
noncomputable def z53 : Str := ⟨⟨[nat_lit 82, nat_lit 95, nat_lit 86, nat_lit 65, nat_lit 82]⟩⟩
noncomputable def z54 : Str := ⟨⟨[nat_lit 82, nat_lit 95, nat_lit 77, nat_lit 86, nat_lit 65, nat_lit 82]⟩⟩
noncomputable def z55 : Str := ⟨⟨[nat_lit 82, nat_lit 95, nat_lit 66, nat_lit 79, nat_lit 88, nat_lit 69, nat_lit 68]⟩⟩
noncomputable def z56 : Str := ⟨⟨[nat_lit 82, nat_lit 95, nat_lit 82, nat_lit 79, nat_lit 82, nat_lit 69, nat_lit 70]⟩⟩
noncomputable def z57 : Str := ⟨⟨[nat_lit 82, nat_lit 95, nat_lit 70, nat_lit 84, nat_lit 78]⟩⟩
noncomputable def z58 : Str := ⟨⟨[nat_lit 82, nat_lit 95, nat_lit 82, nat_lit 65, nat_lit 87]⟩⟩
noncomputable def z59 : Str := ⟨⟨[nat_lit 68, nat_lit 69, nat_lit 69, nat_lit 80, nat_lit 69, nat_lit 83, nat_lit 84, nat_lit 95, nat_lit 75, nat_lit 73, nat_lit 78, nat_lit 68]⟩⟩
noncomputable def z60 : Str := ⟨⟨[nat_lit 72, nat_lit 69, nat_lit 65, nat_lit 86, nat_lit 73, nat_lit 69, nat_lit 83, nat_lit 84, nat_lit 95, nat_lit 75, nat_lit 73, nat_lit 78, nat_lit 68]⟩⟩
noncomputable def z61 : Str := ⟨⟨[nat_lit 84, nat_lit 73, nat_lit 68, nat_lit 95, nat_lit 80, nat_lit 82, nat_lit 73, nat_lit 77]⟩⟩
noncomputable def z62 : Str := ⟨⟨[nat_lit 73, nat_lit 78, nat_lit 84, nat_lit 95, nat_lit 82, nat_lit 65, nat_lit 78, nat_lit 71, nat_lit 69, nat_lit 83]⟩⟩
noncomputable def z63 : Str := ⟨⟨[nat_lit 75, nat_lit 105, nat_lit 110, nat_lit 100, nat_lit 84, nat_lit 97, nat_lit 98, nat_lit 108, nat_lit 101]⟩⟩
noncomputable def z64 : Str := ⟨⟨[nat_lit 105, nat_lit 110, nat_lit 110, nat_lit 101, nat_lit 114, nat_lit 95, nat_lit 107, nat_lit 105, nat_lit 110, nat_lit 100, nat_lit 115]⟩⟩
noncomputable def z65 : Str := ⟨⟨[nat_lit 114, nat_lit 111, nat_lit 119, nat_lit 95, nat_lit 108, nat_lit 101, nat_lit 118, nat_lit 101, nat_lit 108]⟩⟩
noncomputable def z66 : Str := ⟨⟨[nat_lit 114, nat_lit 111, nat_lit 119, nat_lit 95, nat_lit 108, nat_lit 101, nat_lit 110, nat_lit 103, nat_lit 116, nat_lit 104]⟩⟩
noncomputable def z67 : Str := ⟨⟨[nat_lit 114, nat_lit 111, nat_lit 119]⟩⟩
noncomputable def z68 : Str := ⟨⟨[nat_lit 112, nat_lit 117, nat_lit 116]⟩⟩
noncomputable def z69 : Str := ⟨⟨[nat_lit 110, nat_lit 117, nat_lit 109, nat_lit 98, nat_lit 101, nat_lit 114]⟩⟩
noncomputable def z70 : Str := ⟨⟨[nat_lit 75, nat_lit 105, nat_lit 110, nat_lit 100, nat_lit 84, nat_lit 97, nat_lit 98, nat_lit 108, nat_lit 101, nat_lit 46, nat_lit 95, nat_lit 95, nat_lit 105, nat_lit 110, nat_lit 105, nat_lit 116, nat_lit 95, nat_lit 95]⟩⟩
noncomputable def z71 : Str := ⟨⟨[nat_lit 75, nat_lit 105, nat_lit 110, nat_lit 100, nat_lit 84, nat_lit 97, nat_lit 98, nat_lit 108, nat_lit 101, nat_lit 46, nat_lit 114, nat_lit 111, nat_lit 119]⟩⟩
noncomputable def z72 : Str := ⟨⟨[nat_lit 102, nat_lit 111, nat_lit 117, nat_lit 110, nat_lit 100]⟩⟩
noncomputable def z73 : Str := ⟨⟨[nat_lit 100, nat_lit 101, nat_lit 112, nat_lit 116, nat_lit 104]⟩⟩
noncomputable def z74 : Str := ⟨⟨[nat_lit 119, nat_lit 101, nat_lit 105, nat_lit 103, nat_lit 104, nat_lit 116]⟩⟩
noncomputable def z75 : Str := ⟨⟨[nat_lit 111, nat_lit 112, nat_lit 101, nat_lit 110, nat_lit 101, nat_lit 100]⟩⟩
noncomputable def z76 : Str := ⟨⟨[nat_lit 108, nat_lit 101, nat_lit 118, nat_lit 101, nat_lit 108]⟩⟩
noncomputable def z77 : Str := ⟨⟨[nat_lit 105, nat_lit 110, nat_lit 110, nat_lit 101, nat_lit 114]⟩⟩
noncomputable def z78 : Str := ⟨⟨[nat_lit 75, nat_lit 105, nat_lit 110, nat_lit 100, nat_lit 84, nat_lit 97, nat_lit 98, nat_lit 108, nat_lit 101, nat_lit 46, nat_lit 112, nat_lit 117, nat_lit 116]⟩⟩
noncomputable def z79 : Str := ⟨⟨[nat_lit 100, nat_lit 101, nat_lit 112, nat_lit 116, nat_lit 104, nat_lit 115]⟩⟩
noncomputable def z80 : Str := ⟨⟨[nat_lit 105, nat_lit 110, nat_lit 100, nat_lit 101, nat_lit 120]⟩⟩
noncomputable def z81 : Str := ⟨⟨[nat_lit 111, nat_lit 112, nat_lit 101, nat_lit 110, nat_lit 115]⟩⟩
noncomputable def z82 : Str := ⟨⟨[nat_lit 114, nat_lit 111, nat_lit 119, nat_lit 115]⟩⟩
noncomputable def z83 : Str := ⟨⟨[nat_lit 119, nat_lit 101, nat_lit 105, nat_lit 103, nat_lit 104, nat_lit 116, nat_lit 115]⟩⟩
noncomputable def z84 : Str := ⟨⟨[nat_lit 95, nat_lit 95, nat_lit 100, nat_lit 105, nat_lit 99, nat_lit 116, nat_lit 95, nat_lit 95]⟩⟩
noncomputable def z85 : Str := ⟨⟨[nat_lit 115, nat_lit 111, nat_lit 114, nat_lit 116]⟩⟩
noncomputable def z86 : Str := ⟨⟨[nat_lit 99, nat_lit 104, nat_lit 101, nat_lit 99, nat_lit 107, nat_lit 95, nat_lit 107, nat_lit 105, nat_lit 110, nat_lit 100, nat_lit 95, nat_lit 114, nat_lit 111, nat_lit 119]⟩⟩
noncomputable def z87 : Str := ⟨⟨[nat_lit 99, nat_lit 104, nat_lit 101, nat_lit 99, nat_lit 107, nat_lit 95, nat_lit 110, nat_lit 97, nat_lit 109, nat_lit 101, nat_lit 100]⟩⟩
noncomputable def z88 : Str := ⟨⟨[nat_lit 99, nat_lit 104, nat_lit 101, nat_lit 99, nat_lit 107, nat_lit 95, nat_lit 97, nat_lit 114, nat_lit 103, nat_lit 115]⟩⟩
noncomputable def z89 : Str := ⟨⟨[nat_lit 109, nat_lit 97, nat_lit 121, nat_lit 95, nat_lit 115, nat_lit 116, nat_lit 97, nat_lit 110, nat_lit 100]⟩⟩
noncomputable def z90 : Str := ⟨⟨[nat_lit 99, nat_lit 108, nat_lit 97, nat_lit 115, nat_lit 115, nat_lit 95, nat_lit 107, nat_lit 105, nat_lit 110, nat_lit 100]⟩⟩
noncomputable def z91 : Str := ⟨⟨[nat_lit 118, nat_lit 97, nat_lit 108, nat_lit 117, nat_lit 101, nat_lit 95, nat_lit 107, nat_lit 105, nat_lit 110, nat_lit 100]⟩⟩
noncomputable def z92 : Str := ⟨⟨[nat_lit 112, nat_lit 114, nat_lit 105, nat_lit 109, nat_lit 95, nat_lit 107, nat_lit 105, nat_lit 110, nat_lit 100]⟩⟩
noncomputable def z93 : Str := ⟨⟨[nat_lit 118, nat_lit 97, nat_lit 114, nat_lit 95, nat_lit 107, nat_lit 105, nat_lit 110, nat_lit 100]⟩⟩
noncomputable def z94 : Str := ⟨⟨[nat_lit 105, nat_lit 115, nat_lit 95, nat_lit 118, nat_lit 97, nat_lit 108, nat_lit 117, nat_lit 101]⟩⟩
noncomputable def z95 : Str := ⟨⟨[nat_lit 105, nat_lit 115, nat_lit 95, nat_lit 118, nat_lit 97, nat_lit 114]⟩⟩
noncomputable def z96 : Str := ⟨⟨[nat_lit 105, nat_lit 110, nat_lit 116, nat_lit 95, nat_lit 114, nat_lit 97, nat_lit 110, nat_lit 103, nat_lit 101]⟩⟩
noncomputable def z97 : Str := ⟨⟨[nat_lit 105, nat_lit 115, nat_lit 95, nat_lit 110, nat_lit 117, nat_lit 109, nat_lit 98, nat_lit 101, nat_lit 114]⟩⟩
noncomputable def z98 : Str := ⟨⟨[nat_lit 67, nat_lit 77, nat_lit 95, nat_lit 67, nat_lit 79, nat_lit 78, nat_lit 67, nat_lit 65, nat_lit 84]⟩⟩
noncomputable def z99 : Str := ⟨⟨[nat_lit 67, nat_lit 77, nat_lit 95, nat_lit 67, nat_lit 79, nat_lit 78, nat_lit 67, nat_lit 65, nat_lit 84, nat_lit 95, nat_lit 79, nat_lit 66, nat_lit 74]⟩⟩
noncomputable def z100 : Str := ⟨⟨[nat_lit 102, nat_lit 114, nat_lit 97, nat_lit 109, nat_lit 101, nat_lit 114, nat_lit 117, nat_lit 110, nat_lit 101, nat_lit 46, nat_lit 99, nat_lit 115, nat_lit 110, nat_lit 111, nat_lit 100, nat_lit 101, nat_lit 115]⟩⟩
noncomputable def z101 : Str := ⟨⟨[nat_lit 107, nat_lit 116]⟩⟩
noncomputable def z102 : Str := ⟨⟨[nat_lit 97, nat_lit 114, nat_lit 103, nat_lit 115]⟩⟩
noncomputable def z103 : Str := ⟨⟨[nat_lit 97, nat_lit 114, nat_lit 103]⟩⟩
noncomputable def z104 : Str := ⟨⟨[nat_lit 116, nat_lit 105, nat_lit 100]⟩⟩
noncomputable def z105 : Str := ⟨⟨[nat_lit 105]⟩⟩
noncomputable def z106 : Str := ⟨⟨[nat_lit 68, nat_lit 105, nat_lit 97, nat_lit 103, nat_lit 115]⟩⟩
noncomputable def z107 : Str := ⟨⟨[nat_lit 88, nat_lit 95, nat_lit 67, nat_lit 79, nat_lit 78, nat_lit 83, nat_lit 84]⟩⟩
noncomputable def z108 : Str := ⟨⟨[nat_lit 88, nat_lit 95, nat_lit 76, nat_lit 79, nat_lit 67, nat_lit 65, nat_lit 76]⟩⟩
noncomputable def z109 : Str := ⟨⟨[nat_lit 88, nat_lit 95, nat_lit 70, nat_lit 73, nat_lit 69, nat_lit 76, nat_lit 68]⟩⟩
noncomputable def z110 : Str := ⟨⟨[nat_lit 88, nat_lit 95, nat_lit 69, nat_lit 76, nat_lit 69, nat_lit 77]⟩⟩
noncomputable def z111 : Str := ⟨⟨[nat_lit 88, nat_lit 95, nat_lit 76, nat_lit 69, nat_lit 78]⟩⟩
noncomputable def z112 : Str := ⟨⟨[nat_lit 88, nat_lit 95, nat_lit 67, nat_lit 65, nat_lit 76, nat_lit 76]⟩⟩
noncomputable def z113 : Str := ⟨⟨[nat_lit 88, nat_lit 95, nat_lit 78, nat_lit 69, nat_lit 87]⟩⟩
noncomputable def z114 : Str := ⟨⟨[nat_lit 88, nat_lit 95, nat_lit 78, nat_lit 69, nat_lit 87, nat_lit 65, nat_lit 82, nat_lit 82]⟩⟩
noncomputable def z115 : Str := ⟨⟨[nat_lit 102, nat_lit 114, nat_lit 97, nat_lit 109, nat_lit 101, nat_lit 114, nat_lit 117, nat_lit 110, nat_lit 101, nat_lit 46, nat_lit 99, nat_lit 115, nat_lit 98, nat_lit 111, nat_lit 117, nat_lit 110, nat_lit 100]⟩⟩
noncomputable def z116 : Str := ⟨⟨[nat_lit 99, nat_lit 117, nat_lit 116]⟩⟩
noncomputable def z117 : Str := ⟨⟨[nat_lit 110, nat_lit 117, nat_lit 109, nat_lit 98, nat_lit 101, nat_lit 114, nat_lit 115]⟩⟩
noncomputable def z118 : Str := ⟨⟨[nat_lit 68, nat_lit 105, nat_lit 97, nat_lit 103, nat_lit 115, nat_lit 46, nat_lit 95, nat_lit 95, nat_lit 105, nat_lit 110, nat_lit 105, nat_lit 116, nat_lit 95, nat_lit 95]⟩⟩
noncomputable def z119 : Str := ⟨⟨[nat_lit 119, nat_lit 111, nat_lit 114, nat_lit 100, nat_lit 115]⟩⟩
noncomputable def z120 : Str := ⟨⟨[nat_lit 68, nat_lit 105, nat_lit 97, nat_lit 103, nat_lit 115, nat_lit 46, nat_lit 112, nat_lit 117, nat_lit 116]⟩⟩
noncomputable def z121 : Str := ⟨⟨[nat_lit 99, nat_lit 111, nat_lit 117, nat_lit 110, nat_lit 116]⟩⟩
noncomputable def z122 : Str := ⟨⟨[nat_lit 68, nat_lit 105, nat_lit 97, nat_lit 103, nat_lit 115, nat_lit 46, nat_lit 99, nat_lit 117, nat_lit 116]⟩⟩
noncomputable def z123 : Str := ⟨⟨[nat_lit 68, nat_lit 105, nat_lit 97, nat_lit 103, nat_lit 115, nat_lit 46, nat_lit 110, nat_lit 117, nat_lit 109, nat_lit 98, nat_lit 101, nat_lit 114, nat_lit 115]⟩⟩
noncomputable def z124 : Str := ⟨⟨[nat_lit 88, nat_lit 95, nat_lit 65, nat_lit 82, nat_lit 82, nat_lit 76, nat_lit 73, nat_lit 84]⟩⟩
noncomputable def z125 : Str := ⟨⟨[nat_lit 88, nat_lit 95, nat_lit 68, nat_lit 69, nat_lit 70, nat_lit 65, nat_lit 85, nat_lit 76, nat_lit 84]⟩⟩
noncomputable def z126 : Str := ⟨⟨[nat_lit 88, nat_lit 95, nat_lit 85, nat_lit 78]⟩⟩
noncomputable def z127 : Str := ⟨⟨[nat_lit 88, nat_lit 95, nat_lit 66, nat_lit 73, nat_lit 78]⟩⟩
noncomputable def z128 : Str := ⟨⟨[nat_lit 88, nat_lit 95, nat_lit 65, nat_lit 78, nat_lit 68]⟩⟩
noncomputable def z129 : Str := ⟨⟨[nat_lit 88, nat_lit 95, nat_lit 79, nat_lit 82]⟩⟩
noncomputable def z130 : Str := ⟨⟨[nat_lit 88, nat_lit 95, nat_lit 67, nat_lit 79, nat_lit 78, nat_lit 68]⟩⟩
noncomputable def z131 : Str := ⟨⟨[nat_lit 88, nat_lit 95, nat_lit 67, nat_lit 79, nat_lit 65, nat_lit 76, nat_lit 69, nat_lit 83, nat_lit 67, nat_lit 69]⟩⟩
noncomputable def z132 : Str := ⟨⟨[nat_lit 88, nat_lit 95, nat_lit 67, nat_lit 79, nat_lit 78, nat_lit 86]⟩⟩
noncomputable def z133 : Str := ⟨⟨[nat_lit 88, nat_lit 95, nat_lit 73, nat_lit 83]⟩⟩
noncomputable def z134 : Str := ⟨⟨[nat_lit 88, nat_lit 95, nat_lit 65, nat_lit 83]⟩⟩
noncomputable def z135 : Str := ⟨⟨[nat_lit 88, nat_lit 95, nat_lit 65, nat_lit 83, nat_lit 83, nat_lit 73, nat_lit 71, nat_lit 78]⟩⟩
noncomputable def z136 : Str := ⟨⟨[nat_lit 88, nat_lit 95, nat_lit 67, nat_lit 79, nat_lit 77, nat_lit 80, nat_lit 79, nat_lit 85, nat_lit 78, nat_lit 68]⟩⟩
noncomputable def z137 : Str := ⟨⟨[nat_lit 88, nat_lit 95, nat_lit 76, nat_lit 65, nat_lit 77, nat_lit 66, nat_lit 68, nat_lit 65]⟩⟩
noncomputable def z138 : Str := ⟨⟨[nat_lit 88, nat_lit 95, nat_lit 68, nat_lit 69, nat_lit 76, nat_lit 69, nat_lit 71]⟩⟩
noncomputable def z139 : Str := ⟨⟨[nat_lit 88, nat_lit 95, nat_lit 67, nat_lit 79, nat_lit 78, nat_lit 67, nat_lit 65, nat_lit 84]⟩⟩
noncomputable def z140 : Str := ⟨⟨[nat_lit 88, nat_lit 95, nat_lit 76, nat_lit 73, nat_lit 70, nat_lit 84]⟩⟩
noncomputable def z141 : Str := ⟨⟨[nat_lit 88, nat_lit 95, nat_lit 76, nat_lit 73, nat_lit 70, nat_lit 84, nat_lit 85, nat_lit 78]⟩⟩
noncomputable def z142 : Str := ⟨⟨[nat_lit 88, nat_lit 95, nat_lit 65, nat_lit 87, nat_lit 65, nat_lit 73, nat_lit 84]⟩⟩
noncomputable def z143 : Str := ⟨⟨[nat_lit 88, nat_lit 95, nat_lit 83, nat_lit 69, nat_lit 81]⟩⟩
noncomputable def z144 : Str := ⟨⟨[nat_lit 88, nat_lit 95, nat_lit 82, nat_lit 69, nat_lit 70]⟩⟩
noncomputable def z145 : Str := ⟨⟨[nat_lit 88, nat_lit 95, nat_lit 80, nat_lit 82, nat_lit 79, nat_lit 80]⟩⟩
noncomputable def z146 : Str := ⟨⟨[nat_lit 88, nat_lit 95, nat_lit 66, nat_lit 65, nat_lit 83, nat_lit 69, nat_lit 67, nat_lit 84, nat_lit 79, nat_lit 82]⟩⟩
noncomputable def z147 : Str := ⟨⟨[nat_lit 88, nat_lit 95, nat_lit 70, nat_lit 78, nat_lit 82, nat_lit 69, nat_lit 70]⟩⟩
noncomputable def z148 : Str := ⟨⟨[nat_lit 67, nat_lit 86, nat_lit 95, nat_lit 78, nat_lit 85, nat_lit 77]⟩⟩
noncomputable def z149 : Str := ⟨⟨[nat_lit 67, nat_lit 86, nat_lit 95, nat_lit 82, nat_lit 69, nat_lit 70]⟩⟩
noncomputable def z150 : Str := ⟨⟨[nat_lit 67, nat_lit 86, nat_lit 95, nat_lit 67, nat_lit 65, nat_lit 83, nat_lit 84]⟩⟩
noncomputable def z151 : Str := ⟨⟨[nat_lit 67, nat_lit 86, nat_lit 95, nat_lit 66, nat_lit 79, nat_lit 88]⟩⟩
noncomputable def z152 : Str := ⟨⟨[nat_lit 67, nat_lit 86, nat_lit 95, nat_lit 78, nat_lit 85, nat_lit 76, nat_lit 76]⟩⟩
noncomputable def z153 : Str := ⟨⟨[nat_lit 67, nat_lit 86, nat_lit 95, nat_lit 83, nat_lit 65, nat_lit 77, nat_lit 69]⟩⟩
noncomputable def z154 : Str := ⟨⟨[nat_lit 75, nat_lit 83, nat_lit 95, nat_lit 79, nat_lit 78, nat_lit 69]⟩⟩
noncomputable def z155 : Str := ⟨⟨[nat_lit 75, nat_lit 83, nat_lit 95, nat_lit 77, nat_lit 65, nat_lit 89, nat_lit 66, nat_lit 69]⟩⟩
noncomputable def z156 : Str := ⟨⟨[nat_lit 75, nat_lit 83, nat_lit 95, nat_lit 82, nat_lit 79, nat_lit 87]⟩⟩
noncomputable def z157 : Str := ⟨⟨[nat_lit 75, nat_lit 73, nat_lit 68, nat_lit 95, nat_lit 80, nat_lit 76, nat_lit 65, nat_lit 67, nat_lit 69, nat_lit 83]⟩⟩
noncomputable def z158 : Str := ⟨⟨[nat_lit 85, nat_lit 110, nat_lit 105, nat_lit 116]⟩⟩
noncomputable def z159 : Str := ⟨⟨[nat_lit 112, nat_lit 97, nat_lit 114, nat_lit 116, nat_lit 115, nat_lit 95, nat_lit 97, nat_lit 116]⟩⟩
noncomputable def z160 : Str := ⟨⟨[nat_lit 107, nat_lit 105, nat_lit 100, nat_lit 115, nat_lit 95, nat_lit 111, nat_lit 102]⟩⟩
noncomputable def z161 : Str := ⟨⟨[nat_lit 119, nat_lit 105, nat_lit 116, nat_lit 104, nat_lit 95, nat_lit 107, nat_lit 105, nat_lit 100, nat_lit 115]⟩⟩
noncomputable def z162 : Str := ⟨⟨[nat_lit 102, nat_lit 114, nat_lit 97, nat_lit 109, nat_lit 101, nat_lit 114, nat_lit 117, nat_lit 110, nat_lit 101, nat_lit 46, nat_lit 108, nat_lit 111, nat_lit 119, nat_lit 99, nat_lit 111, nat_lit 114, nat_lit 101]⟩⟩
noncomputable def z163 : Str := ⟨⟨[nat_lit 115, nat_lit 116, nat_lit 111, nat_lit 114, nat_lit 101]⟩⟩
noncomputable def z164 : Str := ⟨⟨[nat_lit 97, nat_lit 115, nat_lit 109]⟩⟩
noncomputable def z165 : Str := ⟨⟨[nat_lit 85, nat_lit 110, nat_lit 105, nat_lit 116, nat_lit 46, nat_lit 95, nat_lit 95, nat_lit 105, nat_lit 110, nat_lit 105, nat_lit 116, nat_lit 95, nat_lit 95]⟩⟩
noncomputable def z166 : Str := ⟨⟨[nat_lit 99, nat_lit 111, nat_lit 110, nat_lit 115, nat_lit 116, nat_lit 115]⟩⟩
noncomputable def z167 : Str := ⟨⟨[nat_lit 100, nat_lit 105, nat_lit 97, nat_lit 103, nat_lit 115]⟩⟩
noncomputable def z168 : Str := ⟨⟨[nat_lit 102, nat_lit 110, nat_lit 115]⟩⟩
noncomputable def z169 : Str := ⟨⟨[nat_lit 105, nat_lit 110, nat_lit 105, nat_lit 116, nat_lit 115]⟩⟩
noncomputable def z170 : Str := ⟨⟨[nat_lit 111, nat_lit 102, nat_lit 95, nat_lit 109, nat_lit 105, nat_lit 100]⟩⟩
noncomputable def z171 : Str := ⟨⟨[nat_lit 115, nat_lit 105, nat_lit 110, nat_lit 105, nat_lit 116, nat_lit 115]⟩⟩
noncomputable def z172 : Str := ⟨⟨[nat_lit 118, nat_lit 97, nat_lit 114, nat_lit 115]⟩⟩
noncomputable def z173 : Str := ⟨⟨[nat_lit 112, nat_lit 108, nat_lit 97, nat_lit 99, nat_lit 101, nat_lit 115]⟩⟩
noncomputable def z174 : Str := ⟨⟨[nat_lit 111, nat_lit 117, nat_lit 116]⟩⟩
noncomputable def z175 : Str := ⟨⟨[nat_lit 112, nat_lit 108, nat_lit 97, nat_lit 99, nat_lit 101]⟩⟩
noncomputable def z176 : Str := ⟨⟨[nat_lit 112, nat_lit 97, nat_lit 114, nat_lit 116]⟩⟩
noncomputable def z177 : Str := ⟨⟨[nat_lit 101]⟩⟩
noncomputable def z178 : Str := ⟨⟨[nat_lit 107, nat_lit 105, nat_lit 100, nat_lit 115]⟩⟩
noncomputable def z179 : Str := ⟨⟨[nat_lit 76, nat_lit 111, nat_lit 119, nat_lit 82, nat_lit 117, nat_lit 108, nat_lit 101]⟩⟩
noncomputable def z180 : Str := ⟨⟨[nat_lit 108, nat_lit 111, nat_lit 119]⟩⟩
noncomputable def z181 : Str := ⟨⟨[nat_lit 108, nat_lit 119]⟩⟩
noncomputable def z182 : Str := ⟨⟨[nat_lit 76, nat_lit 111, nat_lit 119, nat_lit 82, nat_lit 117, nat_lit 108, nat_lit 101, nat_lit 46, nat_lit 108, nat_lit 111, nat_lit 119]⟩⟩
noncomputable def z183 : Str := ⟨⟨[nat_lit 83, nat_lit 112, nat_lit 105, nat_lit 108, nat_lit 108, nat_lit 101, nat_lit 114]⟩⟩
noncomputable def z184 : Str := ⟨⟨[nat_lit 115, nat_lit 112, nat_lit 105, nat_lit 108, nat_lit 108]⟩⟩
noncomputable def z185 : Str := ⟨⟨[nat_lit 101, nat_lit 102, nat_lit 102, nat_lit 101, nat_lit 99, nat_lit 116]⟩⟩
noncomputable def z186 : Str := ⟨⟨[nat_lit 83, nat_lit 112, nat_lit 105, nat_lit 108, nat_lit 108, nat_lit 101, nat_lit 114, nat_lit 46, nat_lit 115, nat_lit 112, nat_lit 105, nat_lit 108, nat_lit 108]⟩⟩
noncomputable def z187 : Str := ⟨⟨[nat_lit 83, nat_lit 112, nat_lit 105, nat_lit 108, nat_lit 108, nat_lit 101, nat_lit 114, nat_lit 46, nat_lit 101, nat_lit 102, nat_lit 102, nat_lit 101, nat_lit 99, nat_lit 116]⟩⟩
noncomputable def z188 : Str := ⟨⟨[nat_lit 76, nat_lit 111, nat_lit 119]⟩⟩
noncomputable def z189 : Str := ⟨⟨[nat_lit 101, nat_lit 120, nat_lit 112, nat_lit 114]⟩⟩
noncomputable def z190 : Str := ⟨⟨[nat_lit 115, nat_lit 116, nat_lit 109, nat_lit 116]⟩⟩
noncomputable def z191 : Str := ⟨⟨[nat_lit 108, nat_lit 97, nat_lit 98, nat_lit 101, nat_lit 108]⟩⟩
noncomputable def z192 : Str := ⟨⟨[nat_lit 116, nat_lit 101, nat_lit 109, nat_lit 112]⟩⟩
noncomputable def z193 : Str := ⟨⟨[nat_lit 111, nat_lit 110, nat_lit 99, nat_lit 101]⟩⟩
noncomputable def z194 : Str := ⟨⟨[nat_lit 117, nat_lit 110, nat_lit 105, nat_lit 116]⟩⟩
noncomputable def z195 : Str := ⟨⟨[nat_lit 102, nat_lit 110]⟩⟩
noncomputable def z196 : Str := ⟨⟨[nat_lit 76, nat_lit 111, nat_lit 119, nat_lit 46, nat_lit 95, nat_lit 95, nat_lit 105, nat_lit 110, nat_lit 105, nat_lit 116, nat_lit 95, nat_lit 95]⟩⟩
noncomputable def z197 : Str := ⟨⟨[nat_lit 76, nat_lit 111, nat_lit 119, nat_lit 46, nat_lit 101, nat_lit 120, nat_lit 112, nat_lit 114]⟩⟩
noncomputable def z198 : Str := ⟨⟨[nat_lit 115]⟩⟩
noncomputable def z199 : Str := ⟨⟨[nat_lit 76, nat_lit 111, nat_lit 119, nat_lit 46, nat_lit 115, nat_lit 116, nat_lit 109, nat_lit 116]⟩⟩
noncomputable def z200 : Str := ⟨⟨[nat_lit 76, nat_lit 111, nat_lit 119, nat_lit 46, nat_lit 112, nat_lit 117, nat_lit 116]⟩⟩
noncomputable def z201 : Str := ⟨⟨[nat_lit 76, nat_lit 111, nat_lit 119, nat_lit 46, nat_lit 108, nat_lit 97, nat_lit 98, nat_lit 101, nat_lit 108]⟩⟩
noncomputable def z202 : Str := ⟨⟨[nat_lit 107, nat_lit 105, nat_lit 110, nat_lit 100]⟩⟩
noncomputable def z203 : Str := ⟨⟨[nat_lit 76, nat_lit 111, nat_lit 119, nat_lit 46, nat_lit 116, nat_lit 101, nat_lit 109, nat_lit 112]⟩⟩
noncomputable def z204 : Str := ⟨⟨[nat_lit 76, nat_lit 111, nat_lit 119, nat_lit 46, nat_lit 111, nat_lit 110, nat_lit 99, nat_lit 101]⟩⟩
noncomputable def z205 : Str := ⟨⟨[nat_lit 101, nat_lit 120, nat_lit 112, nat_lit 114, nat_lit 115]⟩⟩
noncomputable def z206 : Str := ⟨⟨[nat_lit 108, nat_lit 97, nat_lit 98, nat_lit 101, nat_lit 108, nat_lit 115]⟩⟩
noncomputable def z207 : Str := ⟨⟨[nat_lit 115, nat_lit 112, nat_lit 105, nat_lit 108, nat_lit 108, nat_lit 101, nat_lit 114]⟩⟩
noncomputable def z208 : Str := ⟨⟨[nat_lit 115, nat_lit 116, nat_lit 109, nat_lit 116, nat_lit 115]⟩⟩
noncomputable def z209 : Str := ⟨⟨[nat_lit 116, nat_lit 97, nat_lit 114, nat_lit 103, nat_lit 101, nat_lit 116, nat_lit 115]⟩⟩
noncomputable def z210 : Str := ⟨⟨[nat_lit 108, nat_lit 111, nat_lit 119, nat_lit 95, nat_lit 101, nat_lit 120, nat_lit 112, nat_lit 114]⟩⟩
noncomputable def z211 : Str := ⟨⟨[nat_lit 108, nat_lit 111, nat_lit 119, nat_lit 95, nat_lit 112, nat_lit 97, nat_lit 114, nat_lit 116, nat_lit 115]⟩⟩
noncomputable def z212 : Str := ⟨⟨[nat_lit 98, nat_lit 121, nat_lit 95, nat_lit 112, nat_lit 108, nat_lit 97, nat_lit 99, nat_lit 101]⟩⟩
noncomputable def z213 : Str := ⟨⟨[nat_lit 98, nat_lit 111, nat_lit 120, nat_lit 101, nat_lit 100]⟩⟩
noncomputable def z214 : Str := ⟨⟨[nat_lit 106, nat_lit 111, nat_lit 105, nat_lit 110, nat_lit 101, nat_lit 100]⟩⟩
noncomputable def z215 : Str := ⟨⟨[nat_lit 97, nat_lit 115, nat_lit 95, nat_lit 111, nat_lit 98, nat_lit 106, nat_lit 101, nat_lit 99, nat_lit 116]⟩⟩
noncomputable def z216 : Str := ⟨⟨[nat_lit 102, nat_lit 114, nat_lit 97, nat_lit 109, nat_lit 101, nat_lit 114, nat_lit 117, nat_lit 110, nat_lit 101, nat_lit 46, nat_lit 108, nat_lit 111, nat_lit 119, nat_lit 101, nat_lit 120, nat_lit 112, nat_lit 114]⟩⟩
noncomputable def z217 : Str := ⟨⟨[nat_lit 114, nat_lit 117, nat_lit 108, nat_lit 101]⟩⟩
noncomputable def z218 : Str := ⟨⟨[nat_lit 108]⟩⟩
noncomputable def z219 : Str := ⟨⟨[nat_lit 114]⟩⟩
noncomputable def z220 : Str := ⟨⟨[nat_lit 76, nat_lit 111, nat_lit 119, nat_lit 67, nat_lit 111, nat_lit 110, nat_lit 99, nat_lit 97, nat_lit 116]⟩⟩
noncomputable def z221 : Str := ⟨⟨[nat_lit 76, nat_lit 111, nat_lit 119, nat_lit 67, nat_lit 111, nat_lit 110, nat_lit 99, nat_lit 97, nat_lit 116, nat_lit 46, nat_lit 108, nat_lit 111, nat_lit 119]⟩⟩
noncomputable def z222 : Str := ⟨⟨[nat_lit 76, nat_lit 111, nat_lit 119, nat_lit 68, nat_lit 101, nat_lit 108, nat_lit 101, nat_lit 103]⟩⟩
noncomputable def z223 : Str := ⟨⟨[nat_lit 111, nat_lit 98, nat_lit 106]⟩⟩
noncomputable def z224 : Str := ⟨⟨[nat_lit 76, nat_lit 111, nat_lit 119, nat_lit 68, nat_lit 101, nat_lit 108, nat_lit 101, nat_lit 103, nat_lit 46, nat_lit 108, nat_lit 111, nat_lit 119]⟩⟩
noncomputable def z225 : Str := ⟨⟨[nat_lit 76, nat_lit 111, nat_lit 119, nat_lit 76, nat_lit 97, nat_lit 109, nat_lit 98, nat_lit 100, nat_lit 97]⟩⟩
noncomputable def z226 : Str := ⟨⟨[nat_lit 105, nat_lit 110, nat_lit 115, nat_lit 116, nat_lit 97, nat_lit 108, nat_lit 108, nat_lit 95, nat_lit 108, nat_lit 111, nat_lit 119, nat_lit 95, nat_lit 116, nat_lit 101, nat_lit 120, nat_lit 116, nat_lit 115]⟩⟩
noncomputable def z227 : Str := ⟨⟨[nat_lit 70, nat_lit 68, nat_lit 95, nat_lit 79, nat_lit 86, nat_lit 69, nat_lit 82, nat_lit 70, nat_lit 76, nat_lit 79, nat_lit 87]⟩⟩
noncomputable def z228 : Str := ⟨⟨[nat_lit 70, nat_lit 68, nat_lit 95, nat_lit 67, nat_lit 79, nat_lit 78, nat_lit 86, nat_lit 69, nat_lit 82, nat_lit 84]⟩⟩
noncomputable def z229 : Str := ⟨⟨[nat_lit 70, nat_lit 68, nat_lit 95, nat_lit 90, nat_lit 69, nat_lit 82, nat_lit 79]⟩⟩
noncomputable def z230 : Str := ⟨⟨[nat_lit 67, nat_lit 79, nat_lit 77, nat_lit 80, nat_lit 65, nat_lit 82, nat_lit 69, nat_lit 83]⟩⟩
noncomputable def z231 : Str := ⟨⟨[nat_lit 105, nat_lit 110, nat_lit 95, nat_lit 114, nat_lit 97, nat_lit 110, nat_lit 103, nat_lit 101]⟩⟩
noncomputable def z232 : Str := ⟨⟨[nat_lit 102, nat_lit 114, nat_lit 97, nat_lit 109, nat_lit 101, nat_lit 114, nat_lit 117, nat_lit 110, nat_lit 101, nat_lit 46, nat_lit 99, nat_lit 115, nat_lit 102, nat_lit 111, nat_lit 108, nat_lit 100]⟩⟩
noncomputable def z233 : Str := ⟨⟨[nat_lit 76, nat_lit 111, nat_lit 119, nat_lit 76, nat_lit 97, nat_lit 109, nat_lit 98, nat_lit 100, nat_lit 97, nat_lit 46, nat_lit 108, nat_lit 111, nat_lit 119]⟩⟩
noncomputable def z234 : Str := ⟨⟨[nat_lit 61, nat_lit 61]⟩⟩
noncomputable def z235 : Str := ⟨⟨[nat_lit 33, nat_lit 61]⟩⟩
noncomputable def z236 : Str := ⟨⟨[nat_lit 60]⟩⟩
noncomputable def z237 : Str := ⟨⟨[nat_lit 60, nat_lit 61]⟩⟩
noncomputable def z238 : Str := ⟨⟨[nat_lit 62]⟩⟩
noncomputable def z239 : Str := ⟨⟨[nat_lit 62, nat_lit 61]⟩⟩
noncomputable def z240 : Str := ⟨⟨[nat_lit 110]⟩⟩
noncomputable def z241 : Str := ⟨⟨[nat_lit 104, nat_lit 105, nat_lit 103, nat_lit 104]⟩⟩
noncomputable def z242 : Str := ⟨⟨[nat_lit 102, nat_lit 111, nat_lit 108, nat_lit 100, nat_lit 95, nat_lit 119, nat_lit 105, nat_lit 100, nat_lit 116, nat_lit 104]⟩⟩
noncomputable def z243 : Str := ⟨⟨[nat_lit 102, nat_lit 111, nat_lit 108, nat_lit 100, nat_lit 95, nat_lit 99, nat_lit 111, nat_lit 109, nat_lit 112, nat_lit 97, nat_lit 114, nat_lit 101]⟩⟩
noncomputable def z244 : Str := ⟨⟨[nat_lit 102, nat_lit 111, nat_lit 108, nat_lit 100, nat_lit 95, nat_lit 98, nat_lit 105, nat_lit 116, nat_lit 115]⟩⟩
noncomputable def z245 : Str := ⟨⟨[nat_lit 102, nat_lit 111, nat_lit 108, nat_lit 100, nat_lit 95, nat_lit 115, nat_lit 104, nat_lit 105, nat_lit 102, nat_lit 116]⟩⟩
noncomputable def z246 : Str := ⟨⟨[nat_lit 102, nat_lit 111, nat_lit 108, nat_lit 100, nat_lit 95, nat_lit 100, nat_lit 105, nat_lit 118, nat_lit 105, nat_lit 100, nat_lit 101]⟩⟩
noncomputable def z247 : Str := ⟨⟨[nat_lit 102, nat_lit 111, nat_lit 108, nat_lit 100, nat_lit 95, nat_lit 119, nat_lit 104, nat_lit 111, nat_lit 108, nat_lit 101]⟩⟩
noncomputable def z248 : Str := ⟨⟨[nat_lit 102, nat_lit 111, nat_lit 108, nat_lit 100, nat_lit 95, nat_lit 98, nat_lit 105, nat_lit 110]⟩⟩
noncomputable def z249 : Str := ⟨⟨[nat_lit 102, nat_lit 111, nat_lit 108, nat_lit 100, nat_lit 95, nat_lit 117, nat_lit 110]⟩⟩
noncomputable def z250 : Str := ⟨⟨[nat_lit 102, nat_lit 111, nat_lit 108, nat_lit 100, nat_lit 95, nat_lit 99, nat_lit 111, nat_lit 110, nat_lit 118]⟩⟩
noncomputable def z251 : Str := ⟨⟨[nat_lit 107, nat_lit 110, nat_lit 111, nat_lit 119, nat_lit 110]⟩⟩
noncomputable def z252 : Str := ⟨⟨[nat_lit 110, nat_lit 117, nat_lit 109, nat_lit 101, nat_lit 114, nat_lit 105, nat_lit 99]⟩⟩
noncomputable def z253 : Str := ⟨⟨[nat_lit 109, nat_lit 97, nat_lit 100, nat_lit 101]⟩⟩
noncomputable def z254 : Str := ⟨⟨[nat_lit 111, nat_lit 112]⟩⟩
noncomputable def z255 : Str := ⟨⟨[nat_lit 97]⟩⟩
noncomputable def z256 : Str := ⟨⟨[nat_lit 98]⟩⟩
noncomputable def z257 : Str := ⟨⟨[nat_lit 99, nat_lit 104, nat_lit 101, nat_lit 99, nat_lit 107, nat_lit 101, nat_lit 100]⟩⟩
noncomputable def z258 : Str := ⟨⟨[nat_lit 113]⟩⟩
noncomputable def z259 : Str := ⟨⟨[nat_lit 118, nat_lit 97, nat_lit 108, nat_lit 117, nat_lit 101]⟩⟩
noncomputable def z260 : Str := ⟨⟨[nat_lit 112, nat_lit 97, nat_lit 105, nat_lit 114]⟩⟩
noncomputable def z261 : Str := ⟨⟨[nat_lit 98, nat_lit 105, nat_lit 110, nat_lit 95, nat_lit 107, nat_lit 110, nat_lit 111, nat_lit 119, nat_lit 110]⟩⟩
noncomputable def z262 : Str := ⟨⟨[nat_lit 98, nat_lit 105, nat_lit 110, nat_lit 95, nat_lit 114, nat_lit 101, nat_lit 115, nat_lit 117, nat_lit 108, nat_lit 116]⟩⟩
noncomputable def z263 : Str := ⟨⟨[nat_lit 102, nat_lit 111, nat_lit 108, nat_lit 100, nat_lit 95, nat_lit 117, nat_lit 110, nat_lit 97, nat_lit 114, nat_lit 121]⟩⟩
noncomputable def z264 : Str := ⟨⟨[nat_lit 102, nat_lit 111, nat_lit 108, nat_lit 100, nat_lit 95, nat_lit 98, nat_lit 105, nat_lit 110, nat_lit 97, nat_lit 114, nat_lit 121]⟩⟩
noncomputable def z265 : Str := ⟨⟨[nat_lit 102, nat_lit 111, nat_lit 108, nat_lit 100, nat_lit 95, nat_lit 108, nat_lit 111, nat_lit 103, nat_lit 105, nat_lit 99]⟩⟩
noncomputable def z266 : Str := ⟨⟨[nat_lit 102, nat_lit 111, nat_lit 108, nat_lit 100, nat_lit 95, nat_lit 99, nat_lit 104, nat_lit 111, nat_lit 105, nat_lit 99, nat_lit 101]⟩⟩
noncomputable def z267 : Str := ⟨⟨[nat_lit 105, nat_lit 115, nat_lit 95, nat_lit 99, nat_lit 111, nat_lit 110, nat_lit 115, nat_lit 116, nat_lit 97, nat_lit 110, nat_lit 116, nat_lit 95, nat_lit 110, nat_lit 117, nat_lit 108, nat_lit 108]⟩⟩
noncomputable def z268 : Str := ⟨⟨[nat_lit 110, nat_lit 117, nat_lit 108, nat_lit 108, nat_lit 95, nat_lit 116, nat_lit 117, nat_lit 114, nat_lit 110, nat_lit 101, nat_lit 100]⟩⟩
noncomputable def z269 : Str := ⟨⟨[nat_lit 102, nat_lit 111, nat_lit 108, nat_lit 100, nat_lit 95, nat_lit 99, nat_lit 111, nat_lit 110, nat_lit 118, nat_lit 101, nat_lit 114, nat_lit 116]⟩⟩
noncomputable def z270 : Str := ⟨⟨[nat_lit 102, nat_lit 111, nat_lit 108, nat_lit 100, nat_lit 95, nat_lit 100, nat_lit 101, nat_lit 102, nat_lit 97, nat_lit 117, nat_lit 108, nat_lit 116]⟩⟩
noncomputable def z271 : Str := ⟨⟨[nat_lit 116, nat_lit 101, nat_lit 120, nat_lit 116, nat_lit 95, nat_lit 112, nat_lit 97, nat_lit 114, nat_lit 116]⟩⟩
noncomputable def z272 : Str := ⟨⟨[nat_lit 102, nat_lit 111, nat_lit 108, nat_lit 100, nat_lit 95, nat_lit 99, nat_lit 111, nat_lit 110, nat_lit 99, nat_lit 97, nat_lit 116]⟩⟩
noncomputable def z273 : Str := ⟨⟨[nat_lit 102, nat_lit 111, nat_lit 108, nat_lit 100]⟩⟩
noncomputable def z274 : Str := ⟨⟨[nat_lit 112, nat_lit 97, nat_lit 114, nat_lit 116, nat_lit 115]⟩⟩
noncomputable def z275 : Str := ⟨⟨[nat_lit 108, nat_lit 97, nat_lit 115, nat_lit 116]⟩⟩
noncomputable def z276 : Str := ⟨⟨[nat_lit 116, nat_lit 101, nat_lit 120, nat_lit 116]⟩⟩
noncomputable def z277 : Str := ⟨⟨[nat_lit 102, nat_lit 111, nat_lit 108, nat_lit 100, nat_lit 95, nat_lit 97, nat_lit 108, nat_lit 108]⟩⟩
noncomputable def z278 : Str := ⟨⟨[nat_lit 83, nat_lit 116, nat_lit 111, nat_lit 114, nat_lit 101]⟩⟩
noncomputable def z279 : Str := ⟨⟨[nat_lit 95, nat_lit 108, nat_lit 97, nat_lit 119, nat_lit 95, nat_lit 87, nat_lit 79, nat_lit 82, nat_lit 68, nat_lit 83]⟩⟩
noncomputable def z280 : Str := ⟨⟨[nat_lit 95, nat_lit 108, nat_lit 97, nat_lit 119, nat_lit 95, nat_lit 70, nat_lit 73, nat_lit 82, nat_lit 83, nat_lit 84]⟩⟩
noncomputable def z281 : Str := ⟨⟨[nat_lit 95, nat_lit 108, nat_lit 97, nat_lit 119, nat_lit 95, nat_lit 116, nat_lit 97, nat_lit 107, nat_lit 101]⟩⟩
noncomputable def z282 : Str := ⟨⟨[nat_lit 95, nat_lit 108, nat_lit 97, nat_lit 119, nat_lit 95, nat_lit 99, nat_lit 111, nat_lit 110, nat_lit 99, nat_lit 97, nat_lit 116]⟩⟩
noncomputable def z283 : Str := ⟨⟨[nat_lit 108, nat_lit 97, nat_lit 119, nat_lit 95, nat_lit 115, nat_lit 97, nat_lit 48, nat_lit 50, nat_lit 52, nat_lit 55, nat_lit 95, nat_lit 48, nat_lit 49]⟩⟩
noncomputable def z284 : Str := ⟨⟨[nat_lit 116, nat_lit 117, nat_lit 114, nat_lit 110, nat_lit 101, nat_lit 100]⟩⟩
noncomputable def z285 : Str := ⟨⟨[nat_lit 107, nat_lit 105, nat_lit 100]⟩⟩
noncomputable def z286 : Str := ⟨⟨[nat_lit 102, nat_lit 114, nat_lit 97, nat_lit 109, nat_lit 101, nat_lit 114, nat_lit 117, nat_lit 110, nat_lit 101, nat_lit 46, nat_lit 115, nat_lit 116, nat_lit 111, nat_lit 114, nat_lit 101]⟩⟩
noncomputable def z287 : Str := ⟨⟨[nat_lit 83, nat_lit 116, nat_lit 111, nat_lit 114, nat_lit 101, nat_lit 46, nat_lit 95, nat_lit 95, nat_lit 105, nat_lit 110, nat_lit 105, nat_lit 116, nat_lit 95, nat_lit 95]⟩⟩
noncomputable def z288 : Str := ⟨⟨[nat_lit 97, nat_lit 115, nat_lit 109, nat_lit 115]⟩⟩
noncomputable def z289 : Str := ⟨⟨[nat_lit 101, nat_lit 110, nat_lit 116, nat_lit 114, nat_lit 121]⟩⟩
noncomputable def z290 : Str := ⟨⟨[nat_lit 102, nat_lit 105, nat_lit 101, nat_lit 108, nat_lit 100, nat_lit 115, nat_lit 95]⟩⟩
noncomputable def z291 : Str := ⟨⟨[nat_lit 109, nat_lit 101, nat_lit 116, nat_lit 104, nat_lit 111, nat_lit 100, nat_lit 115]⟩⟩
noncomputable def z292 : Str := ⟨⟨[nat_lit 110, nat_lit 97, nat_lit 109, nat_lit 101, nat_lit 115]⟩⟩
noncomputable def z293 : Str := ⟨⟨[nat_lit 116, nat_lit 121, nat_lit 112, nat_lit 101, nat_lit 115]⟩⟩
noncomputable def z294 : Str := ⟨⟨[]⟩⟩
noncomputable def z295 : Str := ⟨⟨[nat_lit 98, nat_lit 99]⟩⟩
noncomputable def z296 : Str := ⟨⟨[nat_lit 100]⟩⟩
noncomputable def z297 : Str := ⟨⟨[nat_lit 95, nat_lit 108, nat_lit 97, nat_lit 119, nat_lit 95, nat_lit 116, nat_lit 101, nat_lit 120, nat_lit 116]⟩⟩
noncomputable def z298 : Str := ⟨⟨[nat_lit 95, nat_lit 108, nat_lit 97, nat_lit 119, nat_lit 95, nat_lit 112, nat_lit 105, nat_lit 101, nat_lit 99, nat_lit 101]⟩⟩
noncomputable def z299 : Str := ⟨⟨[nat_lit 95, nat_lit 108, nat_lit 97, nat_lit 119, nat_lit 95, nat_lit 115, nat_lit 97, nat_lit 105, nat_lit 100]⟩⟩
noncomputable def z300 : Str := ⟨⟨[nat_lit 95, nat_lit 108, nat_lit 97, nat_lit 119, nat_lit 95, nat_lit 103, nat_lit 105, nat_lit 118, nat_lit 101, nat_lit 110]⟩⟩
noncomputable def z301 : Str := ⟨⟨[nat_lit 95, nat_lit 108, nat_lit 97, nat_lit 119, nat_lit 95, nat_lit 97, nat_lit 115, nat_lit 95, nat_lit 111, nat_lit 98, nat_lit 106, nat_lit 101, nat_lit 99, nat_lit 116]⟩⟩
noncomputable def z302 : Str := ⟨⟨[nat_lit 95, nat_lit 108, nat_lit 97, nat_lit 119, nat_lit 95, nat_lit 109, nat_lit 101, nat_lit 97, nat_lit 110]⟩⟩
noncomputable def z303 : Str := ⟨⟨[nat_lit 95, nat_lit 108, nat_lit 97, nat_lit 119, nat_lit 95, nat_lit 99, nat_lit 111, nat_lit 117, nat_lit 110, nat_lit 116]⟩⟩
noncomputable def z304 : Str := ⟨⟨[nat_lit 95, nat_lit 108, nat_lit 97, nat_lit 119, nat_lit 95, nat_lit 98, nat_lit 111, nat_lit 117, nat_lit 110, nat_lit 100]⟩⟩
noncomputable def z305 : Str := ⟨⟨[nat_lit 95, nat_lit 108, nat_lit 97, nat_lit 119, nat_lit 95, nat_lit 114, nat_lit 117, nat_lit 110]⟩⟩
noncomputable def z306 : Str := ⟨⟨[nat_lit 95, nat_lit 108, nat_lit 97, nat_lit 119, nat_lit 95, nat_lit 106, nat_lit 111, nat_lit 105, nat_lit 110, nat_lit 105, nat_lit 110, nat_lit 103, nat_lit 115]⟩⟩
noncomputable def z307 : Str := ⟨⟨[nat_lit 95, nat_lit 108, nat_lit 97, nat_lit 119, nat_lit 95, nat_lit 105, nat_lit 115, nat_lit 95, nat_lit 106, nat_lit 111, nat_lit 105, nat_lit 110, nat_lit 105, nat_lit 110, nat_lit 103]⟩⟩
noncomputable def z308 : Str := ⟨⟨[nat_lit 95, nat_lit 108, nat_lit 97, nat_lit 119, nat_lit 95, nat_lit 102, nat_lit 114, nat_lit 111, nat_lit 109, nat_lit 95, nat_lit 108, nat_lit 101, nat_lit 102, nat_lit 116]⟩⟩
noncomputable def z309 : Str := ⟨⟨[nat_lit 95, nat_lit 108, nat_lit 97, nat_lit 119, nat_lit 95, nat_lit 118, nat_lit 97, nat_lit 114, nat_lit 115]⟩⟩
noncomputable def z310 : Str := ⟨⟨[nat_lit 100, nat_lit 101, nat_lit 101, nat_lit 112]⟩⟩
noncomputable def z311 : Str := ⟨⟨[nat_lit 119]⟩⟩
noncomputable def z312 : Str := ⟨⟨[nat_lit 108, nat_lit 105, nat_lit 100]⟩⟩
noncomputable def z313 : Str := ⟨⟨[nat_lit 116]⟩⟩
noncomputable def z314 : Str := ⟨⟨[nat_lit 114, nat_lit 117, nat_lit 110, nat_lit 115]⟩⟩
noncomputable def z315 : Str := ⟨⟨[nat_lit 116, nat_lit 111, nat_lit 116, nat_lit 97, nat_lit 108]⟩⟩
noncomputable def z316 : Str := ⟨⟨[nat_lit 98, nat_lit 101, nat_lit 102, nat_lit 111, nat_lit 114, nat_lit 101]⟩⟩
noncomputable def z317 : Str := ⟨⟨[nat_lit 111, nat_lit 110, nat_lit 101]⟩⟩
noncomputable def z318 : Str := ⟨⟨[nat_lit 102, nat_lit 105, nat_lit 120, nat_lit 101, nat_lit 100]⟩⟩
noncomputable def z319 : Str := ⟨⟨[nat_lit 109, nat_lit 111, nat_lit 114, nat_lit 101]⟩⟩
noncomputable def z320 : Str := ⟨⟨[nat_lit 121, nat_lit 101, nat_lit 115]⟩⟩
noncomputable def z321 : Str := ⟨⟨[nat_lit 110, nat_lit 111]⟩⟩
noncomputable def z322 : Str := ⟨⟨[nat_lit 108, nat_lit 97, nat_lit 119]⟩⟩
noncomputable def z323 : Str := ⟨⟨[nat_lit 115, nat_lit 99, nat_lit 114, nat_lit 105, nat_lit 112, nat_lit 116]⟩⟩
noncomputable def z324 : Str := ⟨⟨[nat_lit 116, nat_lit 114, nat_lit 101, nat_lit 101]⟩⟩
noncomputable def z325 : Str := ⟨⟨[nat_lit 97, nat_lit 115, nat_lit 107, nat_lit 101, nat_lit 100]⟩⟩
noncomputable def z326 : Str := ⟨⟨[nat_lit 119, nat_lit 97, nat_lit 110, nat_lit 116]⟩⟩
noncomputable def z327 : Str := ⟨⟨[nat_lit 103, nat_lit 111, nat_lit 116]⟩⟩
noncomputable def o11 : Obj := ⟨(.type PySem.W.SL.s2766695959194262286x5), none, .seq ⟨[]⟩ 0, ⟨[]⟩⟩
noncomputable def o12 : Obj := ⟨.none, none, .fields ⟨[]⟩, ⟨[]⟩⟩
noncomputable def o13 : Obj := ⟨(.type PySem.W.SL.s5856160107412720595x4), none, .fields ⟨[(.str z0 182), (.str z0 183), (.str z1 184), (.int (.ofNat 1) 0), (.int (.ofNat 0) 0), (.int (.ofNat 0) 0), (.int (.ofNat 0) 0), (.int (.ofNat 0) 0), (.ref 11), (.bool false), (.int (.ofNat 181) 0), (.ref 12), .none, .none, .none, .none, (.int (.ofNat 185) 0), (.int (.ofNat 1) 0), (.str z1 186)]⟩, ⟨[]⟩⟩
noncomputable def o14 : Obj := ⟨(.type PySem.W.SL.s658472552662922059x5), none, .plain, ⟨[some (.ref 13), some (.ref 3), some (.ref 3), none, some (.str z2 164), none, some (.ref 0)]⟩⟩
noncomputable def T0 (P : Params) : BT := insAll .nil 0 [(boot_o_0 P), (boot_o_1 P), (boot_o_2 P), (boot_o_3 P), (boot_o_4 P), (boot_o_5 P), (boot_o_6 P), (boot_o_7 P), (boot_o_8 P), (boot_o_9 P), (boot_o_10 P), o11, o12, o13, o14]
noncomputable def o2v1l (P : Params) : List DictEntry := [ke P z3 224 (.int (.ofNat 1) 0)]
noncomputable def o2v1 (P : Params) : Obj := ⟨.none, none, .dict ⟨(ke P z4 223 (.int (.ofNat 38) 0)) :: o2v1l P⟩ 2, ⟨[]⟩⟩
noncomputable def o3v1l (P : Params) : List DictEntry := [ke P z5 166 .none, ke P z6 167 .none, ke P z7 168 (.builtin PySem.W.SL.s7097527257260152453x26), ke P z8 169 .none, ke P z9 170 (.ref 6), ke P z10 171 (.ref 4), ke P z11 173 (.str z1 172), ke P z12 174 .none, ke P z13 193 (.ref 21), ke P z14 226 (.ref 38)]
noncomputable def o3v1 (P : Params) : Obj := ⟨(.type PySem.W.SL.s14018661285674007319x4), none, .dict ⟨(ke P z15 165 (.str z16 194)) :: o3v1l P⟩ 11, ⟨[]⟩⟩
noncomputable def o12v1f : List Value := [(.int (.ofNat 1) 0), (.int (.ofNat 0) 0), (.ref 20), (.int (.ofNat 5) 0), (.int (.ofNat 0) 0), (.ref 27)]
noncomputable def o12v1 : Obj := ⟨.none, none, .fields ⟨o12v1f⟩, ⟨[]⟩⟩
noncomputable def o15 : Obj := ⟨(.type PySem.W.SL.s2766695959194262286x5), none, .seq ⟨[]⟩ 0, ⟨[]⟩⟩
noncomputable def o16 : Obj := ⟨.none, none, .fields ⟨[]⟩, ⟨[]⟩⟩
noncomputable def o17 : Obj := ⟨(.type PySem.W.SL.s2766695959194262286x5), none, .seq ⟨[(.str z17 190)]⟩ 0, ⟨[]⟩⟩
noncomputable def o18 : Obj := ⟨(.type PySem.W.SL.s2766695959194262286x5), none, .seq ⟨[]⟩ 0, ⟨[]⟩⟩
noncomputable def o19 : Obj := ⟨.none, none, .func (fd (st 0) z13 z13 0 0 .none .none), ⟨[]⟩⟩
noncomputable def o20 : Obj := ⟨(.type PySem.W.SL.s5856160107412720595x4), none, .fields ⟨[(.str z13 187), (.str z13 188), (.str z1 189), (.int (.ofNat 1) 0), (.int (.ofNat 1) 0), (.int (.ofNat 0) 0), (.int (.ofNat 0) 0), (.int (.ofNat 3) 0), (.ref 15), (.bool true), (.int (.ofNat 181) 0), (.ref 16), .none, (.ref 17), (.ref 18), (.ref 19), (.int (.ofNat 191) 0), (.int (.ofNat 1) 0), (.str z1 192)]⟩, ⟨[]⟩⟩
noncomputable def o21 : Obj := ⟨(.type PySem.W.SL.s7174869446012820540x8), none, .func (fd (st 0) z13 z13 3 0 (.str z2 164) (.ref 20)), ⟨[]⟩⟩
noncomputable def o22 : Obj := ⟨(.type PySem.W.SL.s2766695959194262286x5), none, .seq ⟨[(.type PySem.W.SL.s5946037652744460706x9)]⟩ 0, ⟨[]⟩⟩
noncomputable def o23 : Obj := ⟨(.type PySem.W.SL.s11030030927630378310x26), none, .fields ⟨[(.builtin PySem.W.SL.s10062305145149207511x16), (.type PySem.W.SL.s17162191345867700912x4)]⟩, ⟨[]⟩⟩
noncomputable def o24l (P : Params) : List DictEntry := [ke P z18 205 (.str z14 204), ke P z19 207 (.int (.ofNat 5) 206), ke P z20 216 (.ref 35), ke P z21 219 (.ref 36)]
noncomputable def o24 (P : Params) : Obj := ⟨(.type PySem.W.SL.s14018661285674007319x4), none, .dict ⟨(ke P z22 203 (.str z16 194)) :: o24l P⟩ 5, ⟨[]⟩⟩
noncomputable def o25 : Obj := ⟨(.type PySem.W.SL.s2766695959194262286x5), none, .seq ⟨[]⟩ 0, ⟨[]⟩⟩
noncomputable def o26 : Obj := ⟨.none, none, .fields ⟨[(.int (.ofNat 7) 0), (.int (.ofNat 4) 0), (.ref 34)]⟩, ⟨[]⟩⟩
noncomputable def o27 : Obj := ⟨(.type PySem.W.SL.s5856160107412720595x4), none, .fields ⟨[(.str z14 198), (.str z14 199), (.str z1 200), (.int (.ofNat 5) 0), (.int (.ofNat 0) 0), (.int (.ofNat 0) 0), (.int (.ofNat 0) 0), (.int (.ofNat 0) 0), (.ref 25), (.bool false), (.int (.ofNat 181) 0), (.ref 26), .none, .none, .none, .none, (.int (.ofNat 201) 0), (.int (.ofNat 5) 0), (.str z1 202)]⟩, ⟨[]⟩⟩
noncomputable def o28 : Obj := ⟨(.type PySem.W.SL.s658472552662922059x5), none, .plain, ⟨[some (.ref 27), some (.ref 3), some (.ref 24), none, some (.str z16 194), none, some (.ref 0)]⟩⟩
noncomputable def o29 : Obj := ⟨(.type PySem.W.SL.s2766695959194262286x5), none, .seq ⟨[]⟩ 0, ⟨[]⟩⟩
noncomputable def o30 : Obj := ⟨.none, none, .fields ⟨[]⟩, ⟨[]⟩⟩
noncomputable def o31 : Obj := ⟨(.type PySem.W.SL.s2766695959194262286x5), none, .seq ⟨[(.str z23 211), (.str z24 212), (.str z25 213)]⟩ 0, ⟨[]⟩⟩
noncomputable def o32 : Obj := ⟨(.type PySem.W.SL.s2766695959194262286x5), none, .seq ⟨[]⟩ 0, ⟨[]⟩⟩
noncomputable def o33 : Obj := ⟨.none, none, .func (fd (me 2 0) z20 z26 0 0 .none .none), ⟨[]⟩⟩
noncomputable def o34 : Obj := ⟨(.type PySem.W.SL.s5856160107412720595x4), none, .fields ⟨[(.str z20 208), (.str z26 209), (.str z1 210), (.int (.ofNat 7) 0), (.int (.ofNat 3) 0), (.int (.ofNat 0) 0), (.int (.ofNat 0) 0), (.int (.ofNat 3) 0), (.ref 29), (.bool true), (.int (.ofNat 181) 0), (.ref 30), .none, (.ref 31), (.ref 32), (.ref 33), (.int (.ofNat 214) 0), (.int (.ofNat 7) 0), (.str z1 215)]⟩, ⟨[]⟩⟩
noncomputable def o35 : Obj := ⟨(.type PySem.W.SL.s7174869446012820540x8), none, .func (fd (me 2 0) z20 z26 3 0 (.str z16 194) (.ref 34)), ⟨[]⟩⟩
noncomputable def o36 : Obj := ⟨(.type PySem.W.SL.s2766695959194262286x5), none, .seq ⟨[(.str z25 217), (.str z24 218)]⟩ 0, ⟨[]⟩⟩
noncomputable def o37l (P : Params) : List DictEntry := [ke P z19 207 (.int (.ofNat 5) 206), ke P z20 216 (.ref 35), ke P z21 219 (.ref 36), ke P z27 221 (.ref 39), ke P z5 222 .none]
noncomputable def o37 (P : Params) : Obj := ⟨(.type PySem.W.SL.s14018661285674007319x4), none, .dict ⟨(ke P z22 203 (.str z16 194)) :: o37l P⟩ 3, ⟨[]⟩⟩
noncomputable def o38 : Obj := ⟨(.type PySem.W.SL.s17162191345867700912x4), none, .cls (cd z14 [(.type PySem.W.SL.s5946037652744460706x9)] [(.ref 38), (.type PySem.W.SL.s5946037652744460706x9), (.type PySem.W.SL.s4278001404047624695x13), (.type PySem.W.SL.s2742458400755230247x6)] 37 z14 true [] false), ⟨[some (.ref 22), none, some (.str z14 196), some (.str z14 204), some (.builtin PySem.W.SL.s5160863994218179198x17), some (.bool true)]⟩⟩
noncomputable def o39 : Obj := ⟨(.type PySem.W.SL.s14755015743595814543x17), none, .fields ⟨[(.str z27 220), (.ref 38), (.builtin PySem.W.SL.s10220274742760427390x26), .none]⟩, ⟨[]⟩⟩
noncomputable def o40 : Obj := ⟨(.type PySem.W.SL.s4290257624100764138x5), none, .fields ⟨[(.ref 38), (.ref 38), (.ref 38)]⟩, ⟨[]⟩⟩
noncomputable def o41 : Obj := ⟨(.type PySem.W.SL.s11030030927630378310x26), none, .fields ⟨[(.builtin PySem.W.SL.s4860613602091757760x24), (.ref 38)]⟩, ⟨[]⟩⟩
noncomputable def T1 (P : Params) : BT := setAll (insAll (T0 P) 15 [o15, o16, o17, o18, o19, o20, o21, o22, o23, (o24 P), o25, o26, o27, o28, o29, o30, o31, o32, o33, o34, o35, o36, (o37 P), o38, o39, o40, o41]) [(2, (o2v1 P)), (3, (o3v1 P)), (12, o12v1)]
noncomputable def o3v2l (P : Params) : List DictEntry := o3v1l P ++ [ke P z28 242 (.ref 51)]
noncomputable def o3v2 (P : Params) : Obj := ⟨(.type PySem.W.SL.s14018661285674007319x4), none, .dict ⟨(ke P z15 165 (.str z16 194)) :: o3v2l P⟩ 12, ⟨[]⟩⟩
noncomputable def o12v2f : List Value := o12v1f ++ [(.int (.ofNat 10) 0), (.int (.ofNat 0) 0), (.ref 47)]
noncomputable def o12v2 : Obj := ⟨.none, none, .fields ⟨o12v2f⟩, ⟨[]⟩⟩
noncomputable def o38v2 : Obj := ⟨(.type PySem.W.SL.s17162191345867700912x4), none, .cls (cd z14 [(.type PySem.W.SL.s5946037652744460706x9)] [(.ref 38), (.type PySem.W.SL.s5946037652744460706x9), (.type PySem.W.SL.s4278001404047624695x13), (.type PySem.W.SL.s2742458400755230247x6)] 37 z14 true [(.ref 51)] false), ⟨[some (.ref 22), none, some (.str z14 196), some (.str z14 204), some (.builtin PySem.W.SL.s5160863994218179198x17), some (.bool true)]⟩⟩
noncomputable def o42 : Obj := ⟨(.type PySem.W.SL.s2766695959194262286x5), none, .seq ⟨[(.ref 38)]⟩ 0, ⟨[]⟩⟩
noncomputable def o43 : Obj := ⟨(.type PySem.W.SL.s11030030927630378310x26), none, .fields ⟨[(.builtin PySem.W.SL.s10062305145149207511x16), (.type PySem.W.SL.s17162191345867700912x4)]⟩, ⟨[]⟩⟩
noncomputable def o44l (P : Params) : List DictEntry := [ke P z18 236 (.str z28 235), ke P z19 238 (.int (.ofNat 10) 237), ke P z21 239 (.ref 49)]
noncomputable def o44 (P : Params) : Obj := ⟨(.type PySem.W.SL.s14018661285674007319x4), none, .dict ⟨(ke P z22 234 (.str z16 194)) :: o44l P⟩ 4, ⟨[]⟩⟩
noncomputable def o45 : Obj := ⟨(.type PySem.W.SL.s2766695959194262286x5), none, .seq ⟨[]⟩ 0, ⟨[]⟩⟩
noncomputable def o46 : Obj := ⟨.none, none, .fields ⟨[]⟩, ⟨[]⟩⟩
noncomputable def o47 : Obj := ⟨(.type PySem.W.SL.s5856160107412720595x4), none, .fields ⟨[(.str z28 229), (.str z28 230), (.str z1 231), (.int (.ofNat 10) 0), (.int (.ofNat 0) 0), (.int (.ofNat 0) 0), (.int (.ofNat 0) 0), (.int (.ofNat 0) 0), (.ref 45), (.bool false), (.int (.ofNat 181) 0), (.ref 46), .none, .none, .none, .none, (.int (.ofNat 232) 0), (.int (.ofNat 10) 0), (.str z1 233)]⟩, ⟨[]⟩⟩
noncomputable def o48 : Obj := ⟨(.type PySem.W.SL.s658472552662922059x5), none, .plain, ⟨[some (.ref 47), some (.ref 3), some (.ref 44), none, some (.str z16 194), none, some (.ref 0)]⟩⟩
noncomputable def o49 : Obj := ⟨(.type PySem.W.SL.s2766695959194262286x5), none, .seq ⟨[]⟩ 0, ⟨[]⟩⟩
noncomputable def o50l (P : Params) : List DictEntry := [ke P z19 238 (.int (.ofNat 10) 237), ke P z21 239 (.ref 49), ke P z5 240 .none]
noncomputable def o50 (P : Params) : Obj := ⟨(.type PySem.W.SL.s14018661285674007319x4), none, .dict ⟨(ke P z22 234 (.str z16 194)) :: o50l P⟩ 2, ⟨[]⟩⟩
noncomputable def o51 : Obj := ⟨(.type PySem.W.SL.s17162191345867700912x4), none, .cls (cd z28 [(.ref 38)] [(.ref 51), (.ref 38), (.type PySem.W.SL.s5946037652744460706x9), (.type PySem.W.SL.s4278001404047624695x13), (.type PySem.W.SL.s2742458400755230247x6)] 50 z28 true [] false), ⟨[some (.ref 42), none, some (.str z28 227), some (.str z28 235), some (.builtin PySem.W.SL.s5160863994218179198x17), some (.bool true)]⟩⟩
noncomputable def o52 : Obj := ⟨(.type PySem.W.SL.s4290257624100764138x5), none, .fields ⟨[(.ref 51), (.ref 51), (.ref 51)]⟩, ⟨[]⟩⟩
noncomputable def o53 : Obj := ⟨(.type PySem.W.SL.s11030030927630378310x26), none, .fields ⟨[(.builtin PySem.W.SL.s4860613602091757760x24), (.ref 51)]⟩, ⟨[]⟩⟩
noncomputable def T2 (P : Params) : BT := setAll (insAll (T1 P) 42 [o42, o43, (o44 P), o45, o46, o47, o48, o49, (o50 P), o51, o52, o53]) [(3, (o3v2 P)), (12, o12v2), (38, o38v2)]
noncomputable def o3v3l (P : Params) : List DictEntry := o3v2l P ++ [ke P z29 258 (.ref 63), ke P z30 262 (.int (.ofNat 0) 261), ke P z31 264 (.int (.ofNat 1) 263), ke P z32 266 (.int (.ofNat 2) 265), ke P z33 268 (.int (.ofNat 3) 267), ke P z34 270 (.int (.ofNat 4) 269), ke P z35 272 (.int (.ofNat 5) 271), ke P z36 274 (.int (.ofNat 6) 273), ke P z37 276 (.int (.ofNat 7) 275), ke P z38 278 (.int (.ofNat 8) 277), ke P z39 280 (.int (.ofNat 9) 279), ke P z40 282 (.int (.ofNat 10) 281), ke P z41 284 (.int (.ofNat 11) 283), ke P z42 286 (.int (.ofNat 12) 285), ke P z43 288 (.int (.ofNat 13) 287), ke P z44 290 (.int (.ofNat 14) 289), ke P z45 292 (.int (.ofNat 15) 291), ke P z46 294 (.int (.ofNat 16) 293), ke P z47 296 (.int (.ofNat 1) 295), ke P z48 298 (.int (.ofNat 2) 297)]
noncomputable def o3v3 (P : Params) : Obj := ⟨(.type PySem.W.SL.s14018661285674007319x4), none, .dict ⟨(ke P z15 165 (.str z49 259)) :: o3v3l P⟩ 32, ⟨[]⟩⟩
noncomputable def o12v3f : List Value := o12v2f ++ [(.int (.ofNat 12) 0), (.int (.ofNat 0) 0), (.ref 59)]
noncomputable def o12v3 : Obj := ⟨.none, none, .fields ⟨o12v3f⟩, ⟨[]⟩⟩
noncomputable def o38v3 : Obj := ⟨(.type PySem.W.SL.s17162191345867700912x4), none, .cls (cd z14 [(.type PySem.W.SL.s5946037652744460706x9)] [(.ref 38), (.type PySem.W.SL.s5946037652744460706x9), (.type PySem.W.SL.s4278001404047624695x13), (.type PySem.W.SL.s2742458400755230247x6)] 37 z14 true [(.ref 51), (.ref 63)] false), ⟨[some (.ref 22), none, some (.str z14 196), some (.str z14 204), some (.builtin PySem.W.SL.s5160863994218179198x17), some (.bool true)]⟩⟩
noncomputable def o54 : Obj := ⟨(.type PySem.W.SL.s2766695959194262286x5), none, .seq ⟨[(.ref 38)]⟩ 0, ⟨[]⟩⟩
noncomputable def o55 : Obj := ⟨(.type PySem.W.SL.s11030030927630378310x26), none, .fields ⟨[(.builtin PySem.W.SL.s10062305145149207511x16), (.type PySem.W.SL.s17162191345867700912x4)]⟩, ⟨[]⟩⟩
noncomputable def o56l (P : Params) : List DictEntry := [ke P z18 252 (.str z29 251), ke P z19 254 (.int (.ofNat 12) 253), ke P z21 255 (.ref 61)]
noncomputable def o56 (P : Params) : Obj := ⟨(.type PySem.W.SL.s14018661285674007319x4), none, .dict ⟨(ke P z22 250 (.str z16 194)) :: o56l P⟩ 4, ⟨[]⟩⟩
noncomputable def o57 : Obj := ⟨(.type PySem.W.SL.s2766695959194262286x5), none, .seq ⟨[]⟩ 0, ⟨[]⟩⟩
noncomputable def o58 : Obj := ⟨.none, none, .fields ⟨[]⟩, ⟨[]⟩⟩
noncomputable def o59 : Obj := ⟨(.type PySem.W.SL.s5856160107412720595x4), none, .fields ⟨[(.str z29 245), (.str z29 246), (.str z1 247), (.int (.ofNat 12) 0), (.int (.ofNat 0) 0), (.int (.ofNat 0) 0), (.int (.ofNat 0) 0), (.int (.ofNat 0) 0), (.ref 57), (.bool false), (.int (.ofNat 181) 0), (.ref 58), .none, .none, .none, .none, (.int (.ofNat 248) 0), (.int (.ofNat 12) 0), (.str z1 249)]⟩, ⟨[]⟩⟩
noncomputable def o60 : Obj := ⟨(.type PySem.W.SL.s658472552662922059x5), none, .plain, ⟨[some (.ref 59), some (.ref 3), some (.ref 56), none, some (.str z16 194), none, some (.ref 0)]⟩⟩
noncomputable def o61 : Obj := ⟨(.type PySem.W.SL.s2766695959194262286x5), none, .seq ⟨[]⟩ 0, ⟨[]⟩⟩
noncomputable def o62l (P : Params) : List DictEntry := [ke P z19 254 (.int (.ofNat 12) 253), ke P z21 255 (.ref 61), ke P z5 256 .none]
noncomputable def o62 (P : Params) : Obj := ⟨(.type PySem.W.SL.s14018661285674007319x4), none, .dict ⟨(ke P z22 250 (.str z16 194)) :: o62l P⟩ 2, ⟨[]⟩⟩
noncomputable def o63 : Obj := ⟨(.type PySem.W.SL.s17162191345867700912x4), none, .cls (cd z29 [(.ref 38)] [(.ref 63), (.ref 38), (.type PySem.W.SL.s5946037652744460706x9), (.type PySem.W.SL.s4278001404047624695x13), (.type PySem.W.SL.s2742458400755230247x6)] 62 z29 true [] false), ⟨[some (.ref 54), none, some (.str z29 243), some (.str z29 251), some (.builtin PySem.W.SL.s5160863994218179198x17), some (.bool true)]⟩⟩
noncomputable def o64 : Obj := ⟨(.type PySem.W.SL.s4290257624100764138x5), none, .fields ⟨[(.ref 63), (.ref 63), (.ref 63)]⟩, ⟨[]⟩⟩
noncomputable def o65 : Obj := ⟨(.type PySem.W.SL.s11030030927630378310x26), none, .fields ⟨[(.builtin PySem.W.SL.s4860613602091757760x24), (.ref 63)]⟩, ⟨[]⟩⟩
noncomputable def T3 (P : Params) : BT := setAll (insAll (T2 P) 54 [o54, o55, (o56 P), o57, o58, o59, o60, o61, (o62 P), o63, o64, o65]) [(3, (o3v3 P)), (12, o12v3), (38, o38v3)]
noncomputable def o3v4l (P : Params) : List DictEntry := o3v3l P ++ [ke P z50 300 (.int (.ofNat 3) 299), ke P z51 302 (.int (.ofNat 4) 301), ke P z52 304 (.int (.ofNat 5) 303), ke P z53 306 (.int (.ofNat 6) 305), ke P z54 308 (.int (.ofNat 7) 307), ke P z55 310 (.int (.ofNat 8) 309), ke P z56 312 (.int (.ofNat 9) 311), ke P z57 314 (.int (.ofNat 10) 313), ke P z58 316 (.int (.ofNat 11) 315), ke P z59 318 (.int (.ofNat 24) 317), ke P z60 320 (.int (.ofNat 4096) 319)]
noncomputable def o3v4 (P : Params) : Obj := ⟨(.type PySem.W.SL.s14018661285674007319x4), none, .dict ⟨(ke P z15 165 (.str z49 259)) :: o3v4l P⟩ 43, ⟨[]⟩⟩
noncomputable def T4 (P : Params) : BT := setAll (insAll (T3 P) 66 []) [(3, (o3v4 P))]
noncomputable def o3v5l (P : Params) : List DictEntry := o3v4l P ++ [ke P z61 349 (.ref 66)]
noncomputable def o3v5 (P : Params) : Obj := ⟨(.type PySem.W.SL.s14018661285674007319x4), none, .dict ⟨(ke P z15 165 (.str z49 259)) :: o3v5l P⟩ 44, ⟨[]⟩⟩
noncomputable def o66l (P : Params) : List DictEntry := [⟨(.ofNat 9), (.int (.ofNat 9) 322), (.int (.ofNat 1) 263)⟩, ⟨(.ofNat 10), (.int (.ofNat 10) 323), (.int (.ofNat 2) 265)⟩, ⟨(.ofNat 11), (.int (.ofNat 11) 324), (.int (.ofNat 3) 267)⟩, ⟨(.ofNat 12), (.int (.ofNat 12) 325), (.int (.ofNat 4) 269)⟩, ⟨(.ofNat 13), (.int (.ofNat 13) 326), (.int (.ofNat 5) 271)⟩, ⟨(.ofNat 14), (.int (.ofNat 14) 327), (.int (.ofNat 6) 273)⟩, ⟨(.ofNat 15), (.int (.ofNat 15) 328), (.int (.ofNat 7) 275)⟩, ⟨(.ofNat 16), (.int (.ofNat 16) 329), (.int (.ofNat 8) 277)⟩, ⟨(.ofNat 17), (.int (.ofNat 17) 330), (.int (.ofNat 9) 279)⟩, ⟨(.ofNat 18), (.int (.ofNat 18) 331), (.int (.ofNat 10) 281)⟩, ⟨(.ofNat 19), (.int (.ofNat 19) 332), (.int (.ofNat 11) 283)⟩, ⟨(.ofNat 1), (.int (.ofNat 1) 333), (.int (.ofNat 12) 285)⟩, ⟨(.ofNat 4), (.int (.ofNat 4) 334), (.int (.ofNat 13) 287)⟩]
noncomputable def o66 (P : Params) : Obj := ⟨(.type PySem.W.SL.s14018661285674007319x4), none, .dict ⟨(⟨(.ofNat 20), (.int (.ofNat 20) 321), (.int (.ofNat 0) 261)⟩) :: o66l P⟩ 14, ⟨[]⟩⟩
noncomputable def T5 (P : Params) : BT := setAll (insAll (T4 P) 66 [(o66 P)]) [(3, (o3v5 P))]
noncomputable def o3v6l (P : Params) : List DictEntry := o3v5l P ++ [ke P z62 388 (.ref 67)]
noncomputable def o3v6 (P : Params) : Obj := ⟨(.type PySem.W.SL.s14018661285674007319x4), none, .dict ⟨(ke P z15 165 (.str z49 259)) :: o3v6l P⟩ 45, ⟨[]⟩⟩
noncomputable def o67l (P : Params) : List DictEntry := [⟨(.ofNat 2), (.int (.ofNat 2) 265), (.ref 69)⟩, ⟨(.ofNat 3), (.int (.ofNat 3) 267), (.ref 70)⟩, ⟨(.ofNat 4), (.int (.ofNat 4) 269), (.ref 71)⟩, ⟨(.ofNat 5), (.int (.ofNat 5) 271), (.ref 72)⟩, ⟨(.ofNat 6), (.int (.ofNat 6) 273), (.ref 73)⟩, ⟨(.ofNat 7), (.int (.ofNat 7) 275), (.ref 74)⟩, ⟨(.ofNat 8), (.int (.ofNat 8) 277), (.ref 75)⟩, ⟨(.ofNat 9), (.int (.ofNat 9) 279), (.ref 76)⟩, ⟨(.ofNat 10), (.int (.ofNat 10) 281), (.ref 77)⟩, ⟨(.ofNat 11), (.int (.ofNat 11) 283), (.ref 78)⟩]
noncomputable def o67 (P : Params) : Obj := ⟨(.type PySem.W.SL.s14018661285674007319x4), none, .dict ⟨(⟨(.ofNat 1), (.int (.ofNat 1) 263), (.ref 68)⟩) :: o67l P⟩ 11, ⟨[]⟩⟩
noncomputable def o68 : Obj := ⟨(.type PySem.W.SL.s2766695959194262286x5), none, .seq ⟨[(.int (.ofNat 0) 350), (.int (.ofNat 255) 351)]⟩ 0, ⟨[]⟩⟩
noncomputable def o69 : Obj := ⟨(.type PySem.W.SL.s2766695959194262286x5), none, .seq ⟨[(.int (.ofNat 0) 352), (.int (.ofNat 65535) 353)]⟩ 0, ⟨[]⟩⟩
noncomputable def o70 : Obj := ⟨(.type PySem.W.SL.s2766695959194262286x5), none, .seq ⟨[(.int (.negSucc 127) 355), (.int (.ofNat 127) 356)]⟩ 0, ⟨[]⟩⟩
noncomputable def o71 : Obj := ⟨(.type PySem.W.SL.s2766695959194262286x5), none, .seq ⟨[(.int (.ofNat 0) 357), (.int (.ofNat 255) 358)]⟩ 0, ⟨[]⟩⟩
noncomputable def o72 : Obj := ⟨(.type PySem.W.SL.s2766695959194262286x5), none, .seq ⟨[(.int (.negSucc 32767) 360), (.int (.ofNat 32767) 361)]⟩ 0, ⟨[]⟩⟩
noncomputable def o73 : Obj := ⟨(.type PySem.W.SL.s2766695959194262286x5), none, .seq ⟨[(.int (.ofNat 0) 362), (.int (.ofNat 65535) 363)]⟩ 0, ⟨[]⟩⟩
noncomputable def o74 : Obj := ⟨(.type PySem.W.SL.s2766695959194262286x5), none, .seq ⟨[(.int (.negSucc 2147483647) 365), (.int (.ofNat 2147483647) 366)]⟩ 0, ⟨[]⟩⟩
noncomputable def o75 : Obj := ⟨(.type PySem.W.SL.s2766695959194262286x5), none, .seq ⟨[(.int (.ofNat 0) 367), (.int (.ofNat 4294967295) 368)]⟩ 0, ⟨[]⟩⟩
noncomputable def o76 : Obj := ⟨(.type PySem.W.SL.s2766695959194262286x5), none, .seq ⟨[(.int (.negSucc 9223372036854775807) 370), (.int (.ofNat 9223372036854775807) 371)]⟩ 0, ⟨[]⟩⟩
noncomputable def o77 : Obj := ⟨(.type PySem.W.SL.s2766695959194262286x5), none, .seq ⟨[(.int (.ofNat 0) 372), (.int (.ofNat 18446744073709551615) 373)]⟩ 0, ⟨[]⟩⟩
noncomputable def o78 : Obj := ⟨(.type PySem.W.SL.s2766695959194262286x5), none, .seq ⟨[(.int (.negSucc 2147483647) 375), (.int (.ofNat 2147483647) 376)]⟩ 0, ⟨[]⟩⟩
noncomputable def T6 (P : Params) : BT := setAll (insAll (T5 P) 67 [(o67 P), o68, o69, o70, o71, o72, o73, o74, o75, o76, o77, o78]) [(3, (o3v6 P))]
noncomputable def o3v7l (P : Params) : List DictEntry := o3v6l P ++ [ke P z63 445 (.ref 109), ke P z64 453 (.ref 120), ke P z65 460 (.ref 127), ke P z66 467 (.ref 134)]
noncomputable def o3v7 (P : Params) : Obj := ⟨(.type PySem.W.SL.s14018661285674007319x4), none, .dict ⟨(ke P z15 165 (.str z49 259)) :: o3v7l P⟩ 49, ⟨[]⟩⟩
noncomputable def o12v7f : List Value := o12v3f ++ [(.int (.ofNat 47) 0), (.int (.ofNat 0) 0), (.ref 84), (.int (.ofNat 96) 0), (.int (.ofNat 0) 0), (.ref 119), (.int (.ofNat 105) 0), (.int (.ofNat 0) 0), (.ref 126), (.int (.ofNat 109) 0), (.int (.ofNat 0) 0), (.ref 133)]
noncomputable def o12v7 : Obj := ⟨.none, none, .fields ⟨o12v7f⟩, ⟨[]⟩⟩
noncomputable def o79 : Obj := ⟨(.type PySem.W.SL.s2766695959194262286x5), none, .seq ⟨[]⟩ 0, ⟨[]⟩⟩
noncomputable def o80 : Obj := ⟨(.type PySem.W.SL.s11030030927630378310x26), none, .fields ⟨[(.builtin PySem.W.SL.s10062305145149207511x16), (.type PySem.W.SL.s17162191345867700912x4)]⟩, ⟨[]⟩⟩
noncomputable def o81l (P : Params) : List DictEntry := [ke P z18 398 (.str z63 397), ke P z19 400 (.int (.ofNat 47) 399), ke P z20 409 (.ref 92), ke P z67 417 (.ref 99), ke P z68 432 (.ref 106), ke P z21 438 (.ref 107)]
noncomputable def o81 (P : Params) : Obj := ⟨(.type PySem.W.SL.s14018661285674007319x4), none, .dict ⟨(ke P z22 396 (.str z49 259)) :: o81l P⟩ 7, ⟨[]⟩⟩
noncomputable def o82 : Obj := ⟨(.type PySem.W.SL.s2766695959194262286x5), none, .seq ⟨[]⟩ 0, ⟨[]⟩⟩
noncomputable def o83 : Obj := ⟨.none, none, .fields ⟨[(.int (.ofNat 49) 0), (.int (.ofNat 4) 0), (.ref 91), (.int (.ofNat 63) 0), (.int (.ofNat 4) 0), (.ref 98), (.int (.ofNat 68) 0), (.int (.ofNat 4) 0), (.ref 105)]⟩, ⟨[]⟩⟩
noncomputable def o84 : Obj := ⟨(.type PySem.W.SL.s5856160107412720595x4), none, .fields ⟨[(.str z63 391), (.str z63 392), (.str z1 393), (.int (.ofNat 47) 0), (.int (.ofNat 0) 0), (.int (.ofNat 0) 0), (.int (.ofNat 0) 0), (.int (.ofNat 0) 0), (.ref 82), (.bool false), (.int (.ofNat 181) 0), (.ref 83), .none, .none, .none, .none, (.int (.ofNat 394) 0), (.int (.ofNat 47) 0), (.str z1 395)]⟩, ⟨[]⟩⟩
noncomputable def o85 : Obj := ⟨(.type PySem.W.SL.s658472552662922059x5), none, .plain, ⟨[some (.ref 84), some (.ref 3), some (.ref 81), none, some (.str z49 259), none, some (.ref 0)]⟩⟩
noncomputable def o86 : Obj := ⟨(.type PySem.W.SL.s2766695959194262286x5), none, .seq ⟨[]⟩ 0, ⟨[]⟩⟩
noncomputable def o87 : Obj := ⟨.none, none, .fields ⟨[]⟩, ⟨[]⟩⟩
noncomputable def o88 : Obj := ⟨(.type PySem.W.SL.s2766695959194262286x5), none, .seq ⟨[(.str z23 404), (.str z69 405), (.str z67 406)]⟩ 0, ⟨[]⟩⟩
noncomputable def o89 : Obj := ⟨(.type PySem.W.SL.s2766695959194262286x5), none, .seq ⟨[]⟩ 0, ⟨[]⟩⟩
noncomputable def o90 : Obj := ⟨.none, none, .func (fd (me 38 0) z20 z70 0 0 .none .none), ⟨[]⟩⟩
noncomputable def o91 : Obj := ⟨(.type PySem.W.SL.s5856160107412720595x4), none, .fields ⟨[(.str z20 401), (.str z70 402), (.str z1 403), (.int (.ofNat 49) 0), (.int (.ofNat 1) 0), (.int (.ofNat 0) 0), (.int (.ofNat 0) 0), (.int (.ofNat 3) 0), (.ref 86), (.bool true), (.int (.ofNat 181) 0), (.ref 87), .none, (.ref 88), (.ref 89), (.ref 90), (.int (.ofNat 407) 0), (.int (.ofNat 49) 0), (.str z1 408)]⟩, ⟨[]⟩⟩
noncomputable def o92 : Obj := ⟨(.type PySem.W.SL.s7174869446012820540x8), none, .func (fd (me 38 0) z20 z70 3 0 (.str z49 259) (.ref 91)), ⟨[]⟩⟩
noncomputable def o93 : Obj := ⟨(.type PySem.W.SL.s2766695959194262286x5), none, .seq ⟨[]⟩ 0, ⟨[]⟩⟩
noncomputable def o94 : Obj := ⟨.none, none, .fields ⟨[]⟩, ⟨[]⟩⟩
noncomputable def o95 : Obj := ⟨(.type PySem.W.SL.s2766695959194262286x5), none, .seq ⟨[(.str z23 413), (.str z17 414)]⟩ 0, ⟨[]⟩⟩
noncomputable def o96 : Obj := ⟨(.type PySem.W.SL.s2766695959194262286x5), none, .seq ⟨[]⟩ 0, ⟨[]⟩⟩
noncomputable def o97 : Obj := ⟨.none, none, .func (fd (me 38 1) z67 z71 0 0 .none .none), ⟨[]⟩⟩
noncomputable def o98 : Obj := ⟨(.type PySem.W.SL.s5856160107412720595x4), none, .fields ⟨[(.str z67 410), (.str z71 411), (.str z1 412), (.int (.ofNat 63) 0), (.int (.ofNat 2) 0), (.int (.ofNat 0) 0), (.int (.ofNat 0) 0), (.int (.ofNat 3) 0), (.ref 93), (.bool true), (.int (.ofNat 181) 0), (.ref 94), .none, (.ref 95), (.ref 96), (.ref 97), (.int (.ofNat 415) 0), (.int (.ofNat 63) 0), (.str z1 416)]⟩, ⟨[]⟩⟩
noncomputable def o99 : Obj := ⟨(.type PySem.W.SL.s7174869446012820540x8), none, .func (fd (me 38 1) z67 z71 3 0 (.str z49 259) (.ref 98)), ⟨[]⟩⟩
noncomputable def o100 : Obj := ⟨(.type PySem.W.SL.s2766695959194262286x5), none, .seq ⟨[]⟩ 0, ⟨[]⟩⟩
noncomputable def o101 : Obj := ⟨.none, none, .fields ⟨[]⟩, ⟨[]⟩⟩
noncomputable def o102 : Obj := ⟨(.type PySem.W.SL.s2766695959194262286x5), none, .seq ⟨[(.str z23 421), (.str z67 422), (.str z72 423), (.str z73 424), (.str z74 425), (.str z75 426), (.str z76 427), (.str z77 428), (.str z17 429)]⟩ 0, ⟨[]⟩⟩
noncomputable def o103 : Obj := ⟨(.type PySem.W.SL.s2766695959194262286x5), none, .seq ⟨[]⟩ 0, ⟨[]⟩⟩
noncomputable def o104 : Obj := ⟨.none, none, .func (fd (me 38 2) z68 z78 0 0 .none .none), ⟨[]⟩⟩
noncomputable def o105 : Obj := ⟨(.type PySem.W.SL.s5856160107412720595x4), none, .fields ⟨[(.str z68 418), (.str z78 419), (.str z1 420), (.int (.ofNat 68) 0), (.int (.ofNat 2) 0), (.int (.ofNat 0) 0), (.int (.ofNat 0) 0), (.int (.ofNat 3) 0), (.ref 100), (.bool true), (.int (.ofNat 181) 0), (.ref 101), .none, (.ref 102), (.ref 103), (.ref 104), (.int (.ofNat 430) 0), (.int (.ofNat 68) 0), (.str z1 431)]⟩, ⟨[]⟩⟩
noncomputable def o106 : Obj := ⟨(.type PySem.W.SL.s7174869446012820540x8), none, .func (fd (me 38 2) z68 z78 3 0 (.str z49 259) (.ref 105)), ⟨[]⟩⟩
noncomputable def o107 : Obj := ⟨(.type PySem.W.SL.s2766695959194262286x5), none, .seq ⟨[(.str z79 433), (.str z80 434), (.str z81 435), (.str z82 436), (.str z83 437)]⟩ 0, ⟨[]⟩⟩
noncomputable def o108l (P : Params) : List DictEntry := [ke P z19 400 (.int (.ofNat 47) 399), ke P z20 409 (.ref 92), ke P z67 417 (.ref 99), ke P z68 432 (.ref 106), ke P z21 438 (.ref 107), ke P z84 440 (.ref 110), ke P z27 442 (.ref 111), ke P z5 443 .none]
noncomputable def o108 (P : Params) : Obj := ⟨(.type PySem.W.SL.s14018661285674007319x4), none, .dict ⟨(ke P z22 396 (.str z49 259)) :: o108l P⟩ 4, ⟨[]⟩⟩
noncomputable def o109 : Obj := ⟨(.type PySem.W.SL.s17162191345867700912x4), none, .cls (cd z63 [(.type PySem.W.SL.s2742458400755230247x6)] [(.ref 109), (.type PySem.W.SL.s2742458400755230247x6)] 108 z63 true [] false), ⟨[none, none, some (.str z63 389), some (.str z63 397), some (.builtin PySem.W.SL.s11443829558043349243x14), some (.bool true)]⟩⟩
noncomputable def o110 : Obj := ⟨(.type PySem.W.SL.s14755015743595814543x17), none, .fields ⟨[(.str z84 439), (.ref 109), (.builtin PySem.W.SL.s6511155373996960695x17), (.builtin PySem.W.SL.s12411053484034534018x21)]⟩, ⟨[]⟩⟩
noncomputable def o111 : Obj := ⟨(.type PySem.W.SL.s14755015743595814543x17), none, .fields ⟨[(.str z27 441), (.ref 109), (.builtin PySem.W.SL.s10220274742760427390x26), .none]⟩, ⟨[]⟩⟩
noncomputable def o112 : Obj := ⟨(.type PySem.W.SL.s4290257624100764138x5), none, .fields ⟨[(.ref 109), (.ref 109), (.ref 109)]⟩, ⟨[]⟩⟩
noncomputable def o113 : Obj := ⟨(.type PySem.W.SL.s11030030927630378310x26), none, .fields ⟨[(.builtin PySem.W.SL.s4860613602091757760x24), (.ref 109)]⟩, ⟨[]⟩⟩
noncomputable def o114 : Obj := ⟨(.type PySem.W.SL.s2766695959194262286x5), none, .seq ⟨[]⟩ 0, ⟨[]⟩⟩
noncomputable def o115 : Obj := ⟨.none, none, .fields ⟨[]⟩, ⟨[]⟩⟩
noncomputable def o116 : Obj := ⟨(.type PySem.W.SL.s2766695959194262286x5), none, .seq ⟨[(.str z67 449), (.str z85 450)]⟩ 0, ⟨[]⟩⟩
noncomputable def o117 : Obj := ⟨(.type PySem.W.SL.s2766695959194262286x5), none, .seq ⟨[]⟩ 0, ⟨[]⟩⟩
noncomputable def o118 : Obj := ⟨.none, none, .func (fd (st 39) z64 z64 0 0 .none .none), ⟨[]⟩⟩
noncomputable def o119 : Obj := ⟨(.type PySem.W.SL.s5856160107412720595x4), none, .fields ⟨[(.str z64 446), (.str z64 447), (.str z1 448), (.int (.ofNat 96) 0), (.int (.ofNat 1) 0), (.int (.ofNat 0) 0), (.int (.ofNat 0) 0), (.int (.ofNat 3) 0), (.ref 114), (.bool true), (.int (.ofNat 181) 0), (.ref 115), .none, (.ref 116), (.ref 117), (.ref 118), (.int (.ofNat 451) 0), (.int (.ofNat 96) 0), (.str z1 452)]⟩, ⟨[]⟩⟩
noncomputable def o120 : Obj := ⟨(.type PySem.W.SL.s7174869446012820540x8), none, .func (fd (st 39) z64 z64 3 0 (.str z49 259) (.ref 119)), ⟨[]⟩⟩
noncomputable def o121 : Obj := ⟨(.type PySem.W.SL.s2766695959194262286x5), none, .seq ⟨[]⟩ 0, ⟨[]⟩⟩
noncomputable def o122 : Obj := ⟨.none, none, .fields ⟨[]⟩, ⟨[]⟩⟩
noncomputable def o123 : Obj := ⟨(.type PySem.W.SL.s2766695959194262286x5), none, .seq ⟨[(.str z85 457)]⟩ 0, ⟨[]⟩⟩
noncomputable def o124 : Obj := ⟨(.type PySem.W.SL.s2766695959194262286x5), none, .seq ⟨[]⟩ 0, ⟨[]⟩⟩
noncomputable def o125 : Obj := ⟨.none, none, .func (fd (st 40) z65 z65 0 0 .none .none), ⟨[]⟩⟩
noncomputable def o126 : Obj := ⟨(.type PySem.W.SL.s5856160107412720595x4), none, .fields ⟨[(.str z65 454), (.str z65 455), (.str z1 456), (.int (.ofNat 105) 0), (.int (.ofNat 1) 0), (.int (.ofNat 0) 0), (.int (.ofNat 0) 0), (.int (.ofNat 3) 0), (.ref 121), (.bool true), (.int (.ofNat 181) 0), (.ref 122), .none, (.ref 123), (.ref 124), (.ref 125), (.int (.ofNat 458) 0), (.int (.ofNat 105) 0), (.str z1 459)]⟩, ⟨[]⟩⟩
noncomputable def o127 : Obj := ⟨(.type PySem.W.SL.s7174869446012820540x8), none, .func (fd (st 40) z65 z65 3 0 (.str z49 259) (.ref 126)), ⟨[]⟩⟩
noncomputable def o128 : Obj := ⟨(.type PySem.W.SL.s2766695959194262286x5), none, .seq ⟨[]⟩ 0, ⟨[]⟩⟩
noncomputable def o129 : Obj := ⟨.none, none, .fields ⟨[]⟩, ⟨[]⟩⟩
noncomputable def o130 : Obj := ⟨(.type PySem.W.SL.s2766695959194262286x5), none, .seq ⟨[(.str z85 464)]⟩ 0, ⟨[]⟩⟩
noncomputable def o131 : Obj := ⟨(.type PySem.W.SL.s2766695959194262286x5), none, .seq ⟨[]⟩ 0, ⟨[]⟩⟩
noncomputable def o132 : Obj := ⟨.none, none, .func (fd (st 41) z66 z66 0 0 .none .none), ⟨[]⟩⟩
noncomputable def o133 : Obj := ⟨(.type PySem.W.SL.s5856160107412720595x4), none, .fields ⟨[(.str z66 461), (.str z66 462), (.str z1 463), (.int (.ofNat 109) 0), (.int (.ofNat 1) 0), (.int (.ofNat 0) 0), (.int (.ofNat 0) 0), (.int (.ofNat 3) 0), (.ref 128), (.bool true), (.int (.ofNat 181) 0), (.ref 129), .none, (.ref 130), (.ref 131), (.ref 132), (.int (.ofNat 465) 0), (.int (.ofNat 109) 0), (.str z1 466)]⟩, ⟨[]⟩⟩
noncomputable def o134 : Obj := ⟨(.type PySem.W.SL.s7174869446012820540x8), none, .func (fd (st 41) z66 z66 3 0 (.str z49 259) (.ref 133)), ⟨[]⟩⟩
noncomputable def T7 (P : Params) : BT := setAll (insAll (T6 P) 79 [o79, o80, (o81 P), o82, o83, o84, o85, o86, o87, o88, o89, o90, o91, o92, o93, o94, o95, o96, o97, o98, o99, o100, o101, o102, o103, o104, o105, o106, o107, (o108 P), o109, o110, o111, o112, o113, o114, o115, o116, o117, o118, o119, o120, o121, o122, o123, o124, o125, o126, o127, o128, o129, o130, o131, o132, o133, o134]) [(3, (o3v7 P)), (12, o12v7)]
noncomputable def o3v8l (P : Params) : List DictEntry := o3v7l P ++ [ke P z86 477 (.ref 141), ke P z87 485 (.ref 148), ke P z88 494 (.ref 155), ke P z89 503 (.ref 162), ke P z90 512 (.ref 169), ke P z91 521 (.ref 176), ke P z92 529 (.ref 183), ke P z93 537 (.ref 190), ke P z94 545 (.ref 197), ke P z95 554 (.ref 204), ke P z96 561 (.ref 211), ke P z97 568 (.ref 218), ke P z98 570 (.int (.ofNat 10) 569), ke P z99 572 (.int (.ofNat 20) 571)]
noncomputable def o3v8 (P : Params) : Obj := ⟨(.type PySem.W.SL.s14018661285674007319x4), none, .dict ⟨(ke P z15 165 (.str z100 573)) :: o3v8l P⟩ 63, ⟨[]⟩⟩
noncomputable def o12v8f : List Value := o12v7f ++ [(.int (.ofNat 115) 0), (.int (.ofNat 0) 0), (.ref 140), (.int (.ofNat 137) 0), (.int (.ofNat 0) 0), (.ref 147), (.int (.ofNat 141) 0), (.int (.ofNat 0) 0), (.ref 154), (.int (.ofNat 145) 0), (.int (.ofNat 0) 0), (.ref 161), (.int (.ofNat 150) 0), (.int (.ofNat 0) 0), (.ref 168), (.int (.ofNat 154) 0), (.int (.ofNat 0) 0), (.ref 175), (.int (.ofNat 158) 0), (.int (.ofNat 0) 0), (.ref 182), (.int (.ofNat 162) 0), (.int (.ofNat 0) 0), (.ref 189), (.int (.ofNat 164) 0), (.int (.ofNat 0) 0), (.ref 196), (.int (.ofNat 168) 0), (.int (.ofNat 0) 0), (.ref 203), (.int (.ofNat 171) 0), (.int (.ofNat 0) 0), (.ref 210), (.int (.ofNat 175) 0), (.int (.ofNat 0) 0), (.ref 217)]
noncomputable def o12v8 : Obj := ⟨.none, none, .fields ⟨o12v8f⟩, ⟨[]⟩⟩
noncomputable def o135 : Obj := ⟨(.type PySem.W.SL.s2766695959194262286x5), none, .seq ⟨[]⟩ 0, ⟨[]⟩⟩
noncomputable def o136 : Obj := ⟨.none, none, .fields ⟨[]⟩, ⟨[]⟩⟩
noncomputable def o137 : Obj := ⟨(.type PySem.W.SL.s2766695959194262286x5), none, .seq ⟨[(.str z101 471), (.str z67 472), (.str z85 473), (.str z77 474)]⟩ 0, ⟨[]⟩⟩
noncomputable def o138 : Obj := ⟨(.type PySem.W.SL.s2766695959194262286x5), none, .seq ⟨[]⟩ 0, ⟨[]⟩⟩
noncomputable def o139 : Obj := ⟨.none, none, .func (fd (st 42) z86 z86 0 0 .none .none), ⟨[]⟩⟩
noncomputable def o140 : Obj := ⟨(.type PySem.W.SL.s5856160107412720595x4), none, .fields ⟨[(.str z86 468), (.str z86 469), (.str z1 470), (.int (.ofNat 115) 0), (.int (.ofNat 2) 0), (.int (.ofNat 0) 0), (.int (.ofNat 0) 0), (.int (.ofNat 3) 0), (.ref 135), (.bool true), (.int (.ofNat 181) 0), (.ref 136), .none, (.ref 137), (.ref 138), (.ref 139), (.int (.ofNat 475) 0), (.int (.ofNat 115) 0), (.str z1 476)]⟩, ⟨[]⟩⟩
noncomputable def o141 : Obj := ⟨(.type PySem.W.SL.s7174869446012820540x8), none, .func (fd (st 42) z86 z86 3 0 (.str z49 259) (.ref 140)), ⟨[]⟩⟩
noncomputable def o142 : Obj := ⟨(.type PySem.W.SL.s2766695959194262286x5), none, .seq ⟨[]⟩ 0, ⟨[]⟩⟩
noncomputable def o143 : Obj := ⟨.none, none, .fields ⟨[]⟩, ⟨[]⟩⟩
noncomputable def o144 : Obj := ⟨(.type PySem.W.SL.s2766695959194262286x5), none, .seq ⟨[(.str z101 481), (.str z67 482)]⟩ 0, ⟨[]⟩⟩
noncomputable def o145 : Obj := ⟨(.type PySem.W.SL.s2766695959194262286x5), none, .seq ⟨[]⟩ 0, ⟨[]⟩⟩
noncomputable def o146 : Obj := ⟨.none, none, .func (fd (st 43) z87 z87 0 0 .none .none), ⟨[]⟩⟩
noncomputable def o147 : Obj := ⟨(.type PySem.W.SL.s5856160107412720595x4), none, .fields ⟨[(.str z87 478), (.str z87 479), (.str z1 480), (.int (.ofNat 137) 0), (.int (.ofNat 2) 0), (.int (.ofNat 0) 0), (.int (.ofNat 0) 0), (.int (.ofNat 3) 0), (.ref 142), (.bool true), (.int (.ofNat 181) 0), (.ref 143), .none, (.ref 144), (.ref 145), (.ref 146), (.int (.ofNat 483) 0), (.int (.ofNat 137) 0), (.str z1 484)]⟩, ⟨[]⟩⟩
noncomputable def o148 : Obj := ⟨(.type PySem.W.SL.s7174869446012820540x8), none, .func (fd (st 43) z87 z87 3 0 (.str z49 259) (.ref 147)), ⟨[]⟩⟩
noncomputable def o149 : Obj := ⟨(.type PySem.W.SL.s2766695959194262286x5), none, .seq ⟨[]⟩ 0, ⟨[]⟩⟩
noncomputable def o150 : Obj := ⟨.none, none, .fields ⟨[]⟩, ⟨[]⟩⟩
noncomputable def o151 : Obj := ⟨(.type PySem.W.SL.s2766695959194262286x5), none, .seq ⟨[(.str z101 489), (.str z102 490), (.str z103 491)]⟩ 0, ⟨[]⟩⟩
noncomputable def o152 : Obj := ⟨(.type PySem.W.SL.s2766695959194262286x5), none, .seq ⟨[]⟩ 0, ⟨[]⟩⟩
noncomputable def o153 : Obj := ⟨.none, none, .func (fd (st 44) z88 z88 0 0 .none .none), ⟨[]⟩⟩
noncomputable def o154 : Obj := ⟨(.type PySem.W.SL.s5856160107412720595x4), none, .fields ⟨[(.str z88 486), (.str z88 487), (.str z1 488), (.int (.ofNat 141) 0), (.int (.ofNat 2) 0), (.int (.ofNat 0) 0), (.int (.ofNat 0) 0), (.int (.ofNat 3) 0), (.ref 149), (.bool true), (.int (.ofNat 181) 0), (.ref 150), .none, (.ref 151), (.ref 152), (.ref 153), (.int (.ofNat 492) 0), (.int (.ofNat 141) 0), (.str z1 493)]⟩, ⟨[]⟩⟩
noncomputable def o155 : Obj := ⟨(.type PySem.W.SL.s7174869446012820540x8), none, .func (fd (st 44) z88 z88 3 0 (.str z49 259) (.ref 154)), ⟨[]⟩⟩
noncomputable def o156 : Obj := ⟨(.type PySem.W.SL.s2766695959194262286x5), none, .seq ⟨[]⟩ 0, ⟨[]⟩⟩
noncomputable def o157 : Obj := ⟨.none, none, .fields ⟨[]⟩, ⟨[]⟩⟩
noncomputable def o158 : Obj := ⟨(.type PySem.W.SL.s2766695959194262286x5), none, .seq ⟨[(.str z101 498), (.str z17 499), (.str z85 500)]⟩ 0, ⟨[]⟩⟩
noncomputable def o159 : Obj := ⟨(.type PySem.W.SL.s2766695959194262286x5), none, .seq ⟨[]⟩ 0, ⟨[]⟩⟩
noncomputable def o160 : Obj := ⟨.none, none, .func (fd (st 45) z89 z89 0 0 .none .none), ⟨[]⟩⟩
noncomputable def o161 : Obj := ⟨(.type PySem.W.SL.s5856160107412720595x4), none, .fields ⟨[(.str z89 495), (.str z89 496), (.str z1 497), (.int (.ofNat 145) 0), (.int (.ofNat 2) 0), (.int (.ofNat 0) 0), (.int (.ofNat 0) 0), (.int (.ofNat 3) 0), (.ref 156), (.bool true), (.int (.ofNat 181) 0), (.ref 157), .none, (.ref 158), (.ref 159), (.ref 160), (.int (.ofNat 501) 0), (.int (.ofNat 145) 0), (.str z1 502)]⟩, ⟨[]⟩⟩
noncomputable def o162 : Obj := ⟨(.type PySem.W.SL.s7174869446012820540x8), none, .func (fd (st 45) z89 z89 3 0 (.str z49 259) (.ref 161)), ⟨[]⟩⟩
noncomputable def o163 : Obj := ⟨(.type PySem.W.SL.s2766695959194262286x5), none, .seq ⟨[]⟩ 0, ⟨[]⟩⟩
noncomputable def o164 : Obj := ⟨.none, none, .fields ⟨[]⟩, ⟨[]⟩⟩
noncomputable def o165 : Obj := ⟨(.type PySem.W.SL.s2766695959194262286x5), none, .seq ⟨[(.str z101 507), (.str z104 508), (.str z102 509)]⟩ 0, ⟨[]⟩⟩
noncomputable def o166 : Obj := ⟨(.type PySem.W.SL.s2766695959194262286x5), none, .seq ⟨[]⟩ 0, ⟨[]⟩⟩
noncomputable def o167 : Obj := ⟨.none, none, .func (fd (st 46) z90 z90 0 0 .none .none), ⟨[]⟩⟩
noncomputable def o168 : Obj := ⟨(.type PySem.W.SL.s5856160107412720595x4), none, .fields ⟨[(.str z90 504), (.str z90 505), (.str z1 506), (.int (.ofNat 150) 0), (.int (.ofNat 3) 0), (.int (.ofNat 0) 0), (.int (.ofNat 0) 0), (.int (.ofNat 3) 0), (.ref 163), (.bool true), (.int (.ofNat 181) 0), (.ref 164), .none, (.ref 165), (.ref 166), (.ref 167), (.int (.ofNat 510) 0), (.int (.ofNat 150) 0), (.str z1 511)]⟩, ⟨[]⟩⟩
noncomputable def o169 : Obj := ⟨(.type PySem.W.SL.s7174869446012820540x8), none, .func (fd (st 46) z90 z90 3 0 (.str z49 259) (.ref 168)), ⟨[]⟩⟩
noncomputable def o170 : Obj := ⟨(.type PySem.W.SL.s2766695959194262286x5), none, .seq ⟨[]⟩ 0, ⟨[]⟩⟩
noncomputable def o171 : Obj := ⟨.none, none, .fields ⟨[]⟩, ⟨[]⟩⟩
noncomputable def o172 : Obj := ⟨(.type PySem.W.SL.s2766695959194262286x5), none, .seq ⟨[(.str z101 516), (.str z104 517), (.str z102 518)]⟩ 0, ⟨[]⟩⟩
noncomputable def o173 : Obj := ⟨(.type PySem.W.SL.s2766695959194262286x5), none, .seq ⟨[]⟩ 0, ⟨[]⟩⟩
noncomputable def o174 : Obj := ⟨.none, none, .func (fd (st 47) z91 z91 0 0 .none .none), ⟨[]⟩⟩
noncomputable def o175 : Obj := ⟨(.type PySem.W.SL.s5856160107412720595x4), none, .fields ⟨[(.str z91 513), (.str z91 514), (.str z1 515), (.int (.ofNat 154) 0), (.int (.ofNat 3) 0), (.int (.ofNat 0) 0), (.int (.ofNat 0) 0), (.int (.ofNat 3) 0), (.ref 170), (.bool true), (.int (.ofNat 181) 0), (.ref 171), .none, (.ref 172), (.ref 173), (.ref 174), (.int (.ofNat 519) 0), (.int (.ofNat 154) 0), (.str z1 520)]⟩, ⟨[]⟩⟩
noncomputable def o176 : Obj := ⟨(.type PySem.W.SL.s7174869446012820540x8), none, .func (fd (st 47) z91 z91 3 0 (.str z49 259) (.ref 175)), ⟨[]⟩⟩
noncomputable def o177 : Obj := ⟨(.type PySem.W.SL.s2766695959194262286x5), none, .seq ⟨[]⟩ 0, ⟨[]⟩⟩
noncomputable def o178 : Obj := ⟨.none, none, .fields ⟨[]⟩, ⟨[]⟩⟩
noncomputable def o179 : Obj := ⟨(.type PySem.W.SL.s2766695959194262286x5), none, .seq ⟨[(.str z104 525), (.str z102 526)]⟩ 0, ⟨[]⟩⟩
noncomputable def o180 : Obj := ⟨(.type PySem.W.SL.s2766695959194262286x5), none, .seq ⟨[]⟩ 0, ⟨[]⟩⟩
noncomputable def o181 : Obj := ⟨.none, none, .func (fd (st 48) z92 z92 0 0 .none .none), ⟨[]⟩⟩
noncomputable def o182 : Obj := ⟨(.type PySem.W.SL.s5856160107412720595x4), none, .fields ⟨[(.str z92 522), (.str z92 523), (.str z1 524), (.int (.ofNat 158) 0), (.int (.ofNat 2) 0), (.int (.ofNat 0) 0), (.int (.ofNat 0) 0), (.int (.ofNat 3) 0), (.ref 177), (.bool true), (.int (.ofNat 181) 0), (.ref 178), .none, (.ref 179), (.ref 180), (.ref 181), (.int (.ofNat 527) 0), (.int (.ofNat 158) 0), (.str z1 528)]⟩, ⟨[]⟩⟩
noncomputable def o183 : Obj := ⟨(.type PySem.W.SL.s7174869446012820540x8), none, .func (fd (st 48) z92 z92 3 0 (.str z49 259) (.ref 182)), ⟨[]⟩⟩
noncomputable def o184 : Obj := ⟨(.type PySem.W.SL.s2766695959194262286x5), none, .seq ⟨[]⟩ 0, ⟨[]⟩⟩
noncomputable def o185 : Obj := ⟨.none, none, .fields ⟨[]⟩, ⟨[]⟩⟩
noncomputable def o186 : Obj := ⟨(.type PySem.W.SL.s2766695959194262286x5), none, .seq ⟨[(.str z101 533), (.str z105 534)]⟩ 0, ⟨[]⟩⟩
noncomputable def o187 : Obj := ⟨(.type PySem.W.SL.s2766695959194262286x5), none, .seq ⟨[]⟩ 0, ⟨[]⟩⟩
noncomputable def o188 : Obj := ⟨.none, none, .func (fd (st 49) z93 z93 0 0 .none .none), ⟨[]⟩⟩
noncomputable def o189 : Obj := ⟨(.type PySem.W.SL.s5856160107412720595x4), none, .fields ⟨[(.str z93 530), (.str z93 531), (.str z1 532), (.int (.ofNat 162) 0), (.int (.ofNat 2) 0), (.int (.ofNat 0) 0), (.int (.ofNat 0) 0), (.int (.ofNat 3) 0), (.ref 184), (.bool true), (.int (.ofNat 181) 0), (.ref 185), .none, (.ref 186), (.ref 187), (.ref 188), (.int (.ofNat 535) 0), (.int (.ofNat 162) 0), (.str z1 536)]⟩, ⟨[]⟩⟩
noncomputable def o190 : Obj := ⟨(.type PySem.W.SL.s7174869446012820540x8), none, .func (fd (st 49) z93 z93 3 0 (.str z49 259) (.ref 189)), ⟨[]⟩⟩
noncomputable def o191 : Obj := ⟨(.type PySem.W.SL.s2766695959194262286x5), none, .seq ⟨[]⟩ 0, ⟨[]⟩⟩
noncomputable def o192 : Obj := ⟨.none, none, .fields ⟨[]⟩, ⟨[]⟩⟩
noncomputable def o193 : Obj := ⟨(.type PySem.W.SL.s2766695959194262286x5), none, .seq ⟨[(.str z101 541), (.str z17 542)]⟩ 0, ⟨[]⟩⟩
noncomputable def o194 : Obj := ⟨(.type PySem.W.SL.s2766695959194262286x5), none, .seq ⟨[]⟩ 0, ⟨[]⟩⟩
noncomputable def o195 : Obj := ⟨.none, none, .func (fd (st 50) z94 z94 0 0 .none .none), ⟨[]⟩⟩
noncomputable def o196 : Obj := ⟨(.type PySem.W.SL.s5856160107412720595x4), none, .fields ⟨[(.str z94 538), (.str z94 539), (.str z1 540), (.int (.ofNat 164) 0), (.int (.ofNat 2) 0), (.int (.ofNat 0) 0), (.int (.ofNat 0) 0), (.int (.ofNat 3) 0), (.ref 191), (.bool true), (.int (.ofNat 181) 0), (.ref 192), .none, (.ref 193), (.ref 194), (.ref 195), (.int (.ofNat 543) 0), (.int (.ofNat 164) 0), (.str z1 544)]⟩, ⟨[]⟩⟩
noncomputable def o197 : Obj := ⟨(.type PySem.W.SL.s7174869446012820540x8), none, .func (fd (st 50) z94 z94 3 0 (.str z49 259) (.ref 196)), ⟨[]⟩⟩
noncomputable def o198 : Obj := ⟨(.type PySem.W.SL.s2766695959194262286x5), none, .seq ⟨[]⟩ 0, ⟨[]⟩⟩
noncomputable def o199 : Obj := ⟨.none, none, .fields ⟨[]⟩, ⟨[]⟩⟩
noncomputable def o200 : Obj := ⟨(.type PySem.W.SL.s2766695959194262286x5), none, .seq ⟨[(.str z101 549), (.str z17 550), (.str z85 551)]⟩ 0, ⟨[]⟩⟩
noncomputable def o201 : Obj := ⟨(.type PySem.W.SL.s2766695959194262286x5), none, .seq ⟨[]⟩ 0, ⟨[]⟩⟩
noncomputable def o202 : Obj := ⟨.none, none, .func (fd (st 51) z95 z95 0 0 .none .none), ⟨[]⟩⟩
noncomputable def o203 : Obj := ⟨(.type PySem.W.SL.s5856160107412720595x4), none, .fields ⟨[(.str z95 546), (.str z95 547), (.str z1 548), (.int (.ofNat 168) 0), (.int (.ofNat 2) 0), (.int (.ofNat 0) 0), (.int (.ofNat 0) 0), (.int (.ofNat 3) 0), (.ref 198), (.bool true), (.int (.ofNat 181) 0), (.ref 199), .none, (.ref 200), (.ref 201), (.ref 202), (.int (.ofNat 552) 0), (.int (.ofNat 168) 0), (.str z1 553)]⟩, ⟨[]⟩⟩
noncomputable def o204 : Obj := ⟨(.type PySem.W.SL.s7174869446012820540x8), none, .func (fd (st 51) z95 z95 3 0 (.str z49 259) (.ref 203)), ⟨[]⟩⟩
noncomputable def o205 : Obj := ⟨(.type PySem.W.SL.s2766695959194262286x5), none, .seq ⟨[]⟩ 0, ⟨[]⟩⟩
noncomputable def o206 : Obj := ⟨.none, none, .fields ⟨[]⟩, ⟨[]⟩⟩
noncomputable def o207 : Obj := ⟨(.type PySem.W.SL.s2766695959194262286x5), none, .seq ⟨[(.str z17 558)]⟩ 0, ⟨[]⟩⟩
noncomputable def o208 : Obj := ⟨(.type PySem.W.SL.s2766695959194262286x5), none, .seq ⟨[]⟩ 0, ⟨[]⟩⟩
noncomputable def o209 : Obj := ⟨.none, none, .func (fd (st 52) z96 z96 0 0 .none .none), ⟨[]⟩⟩
noncomputable def o210 : Obj := ⟨(.type PySem.W.SL.s5856160107412720595x4), none, .fields ⟨[(.str z96 555), (.str z96 556), (.str z1 557), (.int (.ofNat 171) 0), (.int (.ofNat 1) 0), (.int (.ofNat 0) 0), (.int (.ofNat 0) 0), (.int (.ofNat 3) 0), (.ref 205), (.bool true), (.int (.ofNat 181) 0), (.ref 206), .none, (.ref 207), (.ref 208), (.ref 209), (.int (.ofNat 559) 0), (.int (.ofNat 171) 0), (.str z1 560)]⟩, ⟨[]⟩⟩
noncomputable def o211 : Obj := ⟨(.type PySem.W.SL.s7174869446012820540x8), none, .func (fd (st 52) z96 z96 3 0 (.str z49 259) (.ref 210)), ⟨[]⟩⟩
noncomputable def o212 : Obj := ⟨(.type PySem.W.SL.s2766695959194262286x5), none, .seq ⟨[]⟩ 0, ⟨[]⟩⟩
noncomputable def o213 : Obj := ⟨.none, none, .fields ⟨[]⟩, ⟨[]⟩⟩
noncomputable def o214 : Obj := ⟨(.type PySem.W.SL.s2766695959194262286x5), none, .seq ⟨[(.str z17 565)]⟩ 0, ⟨[]⟩⟩
noncomputable def o215 : Obj := ⟨(.type PySem.W.SL.s2766695959194262286x5), none, .seq ⟨[]⟩ 0, ⟨[]⟩⟩
noncomputable def o216 : Obj := ⟨.none, none, .func (fd (st 53) z97 z97 0 0 .none .none), ⟨[]⟩⟩
noncomputable def o217 : Obj := ⟨(.type PySem.W.SL.s5856160107412720595x4), none, .fields ⟨[(.str z97 562), (.str z97 563), (.str z1 564), (.int (.ofNat 175) 0), (.int (.ofNat 1) 0), (.int (.ofNat 0) 0), (.int (.ofNat 0) 0), (.int (.ofNat 3) 0), (.ref 212), (.bool true), (.int (.ofNat 181) 0), (.ref 213), .none, (.ref 214), (.ref 215), (.ref 216), (.int (.ofNat 566) 0), (.int (.ofNat 175) 0), (.str z1 567)]⟩, ⟨[]⟩⟩
noncomputable def o218 : Obj := ⟨(.type PySem.W.SL.s7174869446012820540x8), none, .func (fd (st 53) z97 z97 3 0 (.str z49 259) (.ref 217)), ⟨[]⟩⟩
noncomputable def T8 (P : Params) : BT := setAll (insAll (T7 P) 135 [o135, o136, o137, o138, o139, o140, o141, o142, o143, o144, o145, o146, o147, o148, o149, o150, o151, o152, o153, o154, o155, o156, o157, o158, o159, o160, o161, o162, o163, o164, o165, o166, o167, o168, o169, o170, o171, o172, o173, o174, o175, o176, o177, o178, o179, o180, o181, o182, o183, o184, o185, o186, o187, o188, o189, o190, o191, o192, o193, o194, o195, o196, o197, o198, o199, o200, o201, o202, o203, o204, o205, o206, o207, o208, o209, o210, o211, o212, o213, o214, o215, o216, o217, o218]) [(3, (o3v8 P)), (12, o12v8)]
noncomputable def o3v9l (P : Params) : List DictEntry := o3v8l P ++ [ke P z106 626 (.ref 254), ke P z107 630 (.int (.ofNat 1) 629), ke P z108 632 (.int (.ofNat 2) 631), ke P z109 634 (.int (.ofNat 4) 633), ke P z110 636 (.int (.ofNat 6) 635), ke P z111 638 (.int (.ofNat 7) 637), ke P z112 640 (.int (.ofNat 8) 639), ke P z113 642 (.int (.ofNat 9) 641), ke P z114 644 (.int (.ofNat 10) 643)]
noncomputable def o3v9 (P : Params) : Obj := ⟨(.type PySem.W.SL.s14018661285674007319x4), none, .dict ⟨(ke P z15 165 (.str z115 627)) :: o3v9l P⟩ 72, ⟨[]⟩⟩
noncomputable def o12v9f : List Value := o12v8f ++ [(.int (.ofNat 180) 0), (.int (.ofNat 0) 0), (.ref 224)]
noncomputable def o12v9 : Obj := ⟨.none, none, .fields ⟨o12v9f⟩, ⟨[]⟩⟩
noncomputable def o219 : Obj := ⟨(.type PySem.W.SL.s2766695959194262286x5), none, .seq ⟨[]⟩ 0, ⟨[]⟩⟩
noncomputable def o220 : Obj := ⟨(.type PySem.W.SL.s11030030927630378310x26), none, .fields ⟨[(.builtin PySem.W.SL.s10062305145149207511x16), (.type PySem.W.SL.s17162191345867700912x4)]⟩, ⟨[]⟩⟩
noncomputable def o221l (P : Params) : List DictEntry := [ke P z18 584 (.str z106 583), ke P z19 586 (.int (.ofNat 180) 585), ke P z20 593 (.ref 232), ke P z68 603 (.ref 239), ke P z116 611 (.ref 246), ke P z117 617 (.ref 251), ke P z21 619 (.ref 252)]
noncomputable def o221 (P : Params) : Obj := ⟨(.type PySem.W.SL.s14018661285674007319x4), none, .dict ⟨(ke P z22 582 (.str z100 573)) :: o221l P⟩ 8, ⟨[]⟩⟩
noncomputable def o222 : Obj := ⟨(.type PySem.W.SL.s2766695959194262286x5), none, .seq ⟨[]⟩ 0, ⟨[]⟩⟩
noncomputable def o223 : Obj := ⟨.none, none, .fields ⟨[(.int (.ofNat 182) 0), (.int (.ofNat 4) 0), (.ref 231), (.int (.ofNat 185) 0), (.int (.ofNat 4) 0), (.ref 238), (.int (.ofNat 188) 0), (.int (.ofNat 4) 0), (.ref 245), (.int (.ofNat 191) 0), (.int (.ofNat 4) 0), (.ref 250)]⟩, ⟨[]⟩⟩
noncomputable def o224 : Obj := ⟨(.type PySem.W.SL.s5856160107412720595x4), none, .fields ⟨[(.str z106 577), (.str z106 578), (.str z1 579), (.int (.ofNat 180) 0), (.int (.ofNat 0) 0), (.int (.ofNat 0) 0), (.int (.ofNat 0) 0), (.int (.ofNat 0) 0), (.ref 222), (.bool false), (.int (.ofNat 181) 0), (.ref 223), .none, .none, .none, .none, (.int (.ofNat 580) 0), (.int (.ofNat 180) 0), (.str z1 581)]⟩, ⟨[]⟩⟩
noncomputable def o225 : Obj := ⟨(.type PySem.W.SL.s658472552662922059x5), none, .plain, ⟨[some (.ref 224), some (.ref 3), some (.ref 221), none, some (.str z100 573), none, some (.ref 0)]⟩⟩
noncomputable def o226 : Obj := ⟨(.type PySem.W.SL.s2766695959194262286x5), none, .seq ⟨[]⟩ 0, ⟨[]⟩⟩
noncomputable def o227 : Obj := ⟨.none, none, .fields ⟨[]⟩, ⟨[]⟩⟩
noncomputable def o228 : Obj := ⟨(.type PySem.W.SL.s2766695959194262286x5), none, .seq ⟨[(.str z23 590)]⟩ 0, ⟨[]⟩⟩
noncomputable def o229 : Obj := ⟨(.type PySem.W.SL.s2766695959194262286x5), none, .seq ⟨[]⟩ 0, ⟨[]⟩⟩
noncomputable def o230 : Obj := ⟨.none, none, .func (fd (me 57 0) z20 z118 0 0 .none .none), ⟨[]⟩⟩
noncomputable def o231 : Obj := ⟨(.type PySem.W.SL.s5856160107412720595x4), none, .fields ⟨[(.str z20 587), (.str z118 588), (.str z1 589), (.int (.ofNat 182) 0), (.int (.ofNat 1) 0), (.int (.ofNat 0) 0), (.int (.ofNat 0) 0), (.int (.ofNat 3) 0), (.ref 226), (.bool true), (.int (.ofNat 181) 0), (.ref 227), .none, (.ref 228), (.ref 229), (.ref 230), (.int (.ofNat 591) 0), (.int (.ofNat 182) 0), (.str z1 592)]⟩, ⟨[]⟩⟩
noncomputable def o232 : Obj := ⟨(.type PySem.W.SL.s7174869446012820540x8), none, .func (fd (me 57 0) z20 z118 3 0 (.str z100 573) (.ref 231)), ⟨[]⟩⟩
noncomputable def o233 : Obj := ⟨(.type PySem.W.SL.s2766695959194262286x5), none, .seq ⟨[]⟩ 0, ⟨[]⟩⟩
noncomputable def o234 : Obj := ⟨.none, none, .fields ⟨[]⟩, ⟨[]⟩⟩
noncomputable def o235 : Obj := ⟨(.type PySem.W.SL.s2766695959194262286x5), none, .seq ⟨[(.str z23 597), (.str z69 598), (.str z25 599), (.str z119 600)]⟩ 0, ⟨[]⟩⟩
noncomputable def o236 : Obj := ⟨(.type PySem.W.SL.s2766695959194262286x5), none, .seq ⟨[]⟩ 0, ⟨[]⟩⟩
noncomputable def o237 : Obj := ⟨.none, none, .func (fd (me 57 1) z68 z120 0 0 .none .none), ⟨[]⟩⟩
noncomputable def o238 : Obj := ⟨(.type PySem.W.SL.s5856160107412720595x4), none, .fields ⟨[(.str z68 594), (.str z120 595), (.str z1 596), (.int (.ofNat 185) 0), (.int (.ofNat 4) 0), (.int (.ofNat 0) 0), (.int (.ofNat 0) 0), (.int (.ofNat 3) 0), (.ref 233), (.bool true), (.int (.ofNat 181) 0), (.ref 234), .none, (.ref 235), (.ref 236), (.ref 237), (.int (.ofNat 601) 0), (.int (.ofNat 185) 0), (.str z1 602)]⟩, ⟨[]⟩⟩
noncomputable def o239 : Obj := ⟨(.type PySem.W.SL.s7174869446012820540x8), none, .func (fd (me 57 1) z68 z120 3 0 (.str z100 573) (.ref 238)), ⟨[]⟩⟩
noncomputable def o240 : Obj := ⟨(.type PySem.W.SL.s2766695959194262286x5), none, .seq ⟨[]⟩ 0, ⟨[]⟩⟩
noncomputable def o241 : Obj := ⟨.none, none, .fields ⟨[]⟩, ⟨[]⟩⟩
noncomputable def o242 : Obj := ⟨(.type PySem.W.SL.s2766695959194262286x5), none, .seq ⟨[(.str z23 607), (.str z121 608)]⟩ 0, ⟨[]⟩⟩
noncomputable def o243 : Obj := ⟨(.type PySem.W.SL.s2766695959194262286x5), none, .seq ⟨[]⟩ 0, ⟨[]⟩⟩
noncomputable def o244 : Obj := ⟨.none, none, .func (fd (me 57 2) z116 z122 0 0 .none .none), ⟨[]⟩⟩
noncomputable def o245 : Obj := ⟨(.type PySem.W.SL.s5856160107412720595x4), none, .fields ⟨[(.str z116 604), (.str z122 605), (.str z1 606), (.int (.ofNat 188) 0), (.int (.ofNat 2) 0), (.int (.ofNat 0) 0), (.int (.ofNat 0) 0), (.int (.ofNat 3) 0), (.ref 240), (.bool true), (.int (.ofNat 181) 0), (.ref 241), .none, (.ref 242), (.ref 243), (.ref 244), (.int (.ofNat 609) 0), (.int (.ofNat 188) 0), (.str z1 610)]⟩, ⟨[]⟩⟩
noncomputable def o246 : Obj := ⟨(.type PySem.W.SL.s7174869446012820540x8), none, .func (fd (me 57 2) z116 z122 3 0 (.str z100 573) (.ref 245)), ⟨[]⟩⟩
noncomputable def o247 : Obj := ⟨(.type PySem.W.SL.s2766695959194262286x5), none, .seq ⟨[]⟩ 0, ⟨[]⟩⟩
noncomputable def o248 : Obj := ⟨.none, none, .fields ⟨[]⟩, ⟨[]⟩⟩
noncomputable def o249 : Obj := ⟨.none, none, .func (fd (me 57 3) z117 z123 0 0 .none .none), ⟨[]⟩⟩
noncomputable def o250 : Obj := ⟨(.type PySem.W.SL.s5856160107412720595x4), none, .fields ⟨[(.str z117 612), (.str z123 613), (.str z1 614), (.int (.ofNat 191) 0), (.int (.ofNat 1) 0), (.int (.ofNat 0) 0), (.int (.ofNat 0) 0), (.int (.ofNat 3) 0), (.ref 247), (.bool true), (.int (.ofNat 181) 0), (.ref 248), .none, .none, .none, (.ref 249), (.int (.ofNat 615) 0), (.int (.ofNat 191) 0), (.str z1 616)]⟩, ⟨[]⟩⟩
noncomputable def o251 : Obj := ⟨(.type PySem.W.SL.s7174869446012820540x8), none, .func (fd (me 57 3) z117 z123 3 0 (.str z100 573) (.ref 250)), ⟨[]⟩⟩
noncomputable def o252 : Obj := ⟨(.type PySem.W.SL.s2766695959194262286x5), none, .seq ⟨[(.str z82 618)]⟩ 0, ⟨[]⟩⟩
noncomputable def o253l (P : Params) : List DictEntry := [ke P z19 586 (.int (.ofNat 180) 585), ke P z20 593 (.ref 232), ke P z68 603 (.ref 239), ke P z116 611 (.ref 246), ke P z117 617 (.ref 251), ke P z21 619 (.ref 252), ke P z84 621 (.ref 255), ke P z27 623 (.ref 256), ke P z5 624 .none]
noncomputable def o253 (P : Params) : Obj := ⟨(.type PySem.W.SL.s14018661285674007319x4), none, .dict ⟨(ke P z22 582 (.str z100 573)) :: o253l P⟩ 4, ⟨[]⟩⟩
noncomputable def o254 : Obj := ⟨(.type PySem.W.SL.s17162191345867700912x4), none, .cls (cd z106 [(.type PySem.W.SL.s2742458400755230247x6)] [(.ref 254), (.type PySem.W.SL.s2742458400755230247x6)] 253 z106 true [] false), ⟨[none, none, some (.str z106 575), some (.str z106 583), some (.builtin PySem.W.SL.s11443829558043349243x14), some (.bool true)]⟩⟩
noncomputable def o255 : Obj := ⟨(.type PySem.W.SL.s14755015743595814543x17), none, .fields ⟨[(.str z84 620), (.ref 254), (.builtin PySem.W.SL.s6511155373996960695x17), (.builtin PySem.W.SL.s12411053484034534018x21)]⟩, ⟨[]⟩⟩
noncomputable def o256 : Obj := ⟨(.type PySem.W.SL.s14755015743595814543x17), none, .fields ⟨[(.str z27 622), (.ref 254), (.builtin PySem.W.SL.s10220274742760427390x26), .none]⟩, ⟨[]⟩⟩
noncomputable def o257 : Obj := ⟨(.type PySem.W.SL.s4290257624100764138x5), none, .fields ⟨[(.ref 254), (.ref 254), (.ref 254)]⟩, ⟨[]⟩⟩
noncomputable def o258 : Obj := ⟨(.type PySem.W.SL.s11030030927630378310x26), none, .fields ⟨[(.builtin PySem.W.SL.s4860613602091757760x24), (.ref 254)]⟩, ⟨[]⟩⟩
noncomputable def T9 (P : Params) : BT := setAll (insAll (T8 P) 219 [o219, o220, (o221 P), o222, o223, o224, o225, o226, o227, o228, o229, o230, o231, o232, o233, o234, o235, o236, o237, o238, o239, o240, o241, o242, o243, o244, o245, o246, o247, o248, o249, o250, o251, o252, (o253 P), o254, o255, o256, o257, o258]) [(3, (o3v9 P)), (12, o12v9)]
noncomputable def o3v10l (P : Params) : List DictEntry := o3v9l P ++ [ke P z124 646 (.int (.ofNat 11) 645), ke P z125 648 (.int (.ofNat 12) 647), ke P z126 650 (.int (.ofNat 13) 649), ke P z127 652 (.int (.ofNat 14) 651), ke P z128 654 (.int (.ofNat 15) 653), ke P z129 656 (.int (.ofNat 16) 655), ke P z130 658 (.int (.ofNat 17) 657), ke P z131 660 (.int (.ofNat 18) 659), ke P z132 662 (.int (.ofNat 19) 661), ke P z133 664 (.int (.ofNat 20) 663), ke P z134 666 (.int (.ofNat 21) 665), ke P z135 668 (.int (.ofNat 22) 667), ke P z136 670 (.int (.ofNat 23) 669), ke P z137 672 (.int (.ofNat 24) 671), ke P z138 674 (.int (.ofNat 25) 673), ke P z139 676 (.int (.ofNat 26) 675), ke P z140 678 (.int (.ofNat 27) 677), ke P z141 680 (.int (.ofNat 28) 679), ke P z142 682 (.int (.ofNat 30) 681), ke P z143 684 (.int (.ofNat 31) 683), ke P z144 686 (.int (.ofNat 33) 685), ke P z145 688 (.int (.ofNat 34) 687), ke P z146 690 (.int (.ofNat 35) 689), ke P z147 692 (.int (.ofNat 36) 691), ke P z148 694 (.int (.ofNat 1) 693), ke P z149 696 (.int (.ofNat 2) 695), ke P z150 698 (.int (.ofNat 3) 697), ke P z151 700 (.int (.ofNat 4) 699), ke P z152 702 (.int (.ofNat 8) 701), ke P z153 704 (.int (.ofNat 10) 703), ke P z154 706 (.int (.ofNat 1) 705), ke P z155 708 (.int (.ofNat 2) 707), ke P z156 710 (.int (.ofNat 3) 709)]
noncomputable def o3v10 (P : Params) : Obj := ⟨(.type PySem.W.SL.s14018661285674007319x4), none, .dict ⟨(ke P z15 165 (.str z115 627)) :: o3v10l P⟩ 105, ⟨[]⟩⟩
noncomputable def T10 (P : Params) : BT := setAll (insAll (T9 P) 259 []) [(3, (o3v10 P))]
noncomputable def o3v11l (P : Params) : List DictEntry := o3v10l P ++ [ke P z157 780 (.ref 259)]
noncomputable def o3v11 (P : Params) : Obj := ⟨(.type PySem.W.SL.s14018661285674007319x4), none, .dict ⟨(ke P z15 165 (.str z115 627)) :: o3v11l P⟩ 106, ⟨[]⟩⟩
noncomputable def o259l (P : Params) : List DictEntry := [⟨(.ofNat 6), (.int (.ofNat 6) 635), (.ref 264)⟩, ⟨(.ofNat 7), (.int (.ofNat 7) 637), (.ref 266)⟩, ⟨(.ofNat 8), (.int (.ofNat 8) 639), (.ref 269)⟩, ⟨(.ofNat 9), (.int (.ofNat 9) 641), (.ref 271)⟩, ⟨(.ofNat 10), (.int (.ofNat 10) 643), (.ref 273)⟩, ⟨(.ofNat 11), (.int (.ofNat 11) 645), (.ref 275)⟩, ⟨(.ofNat 13), (.int (.ofNat 13) 649), (.ref 277)⟩, ⟨(.ofNat 14), (.int (.ofNat 14) 651), (.ref 280)⟩, ⟨(.ofNat 15), (.int (.ofNat 15) 653), (.ref 283)⟩, ⟨(.ofNat 16), (.int (.ofNat 16) 655), (.ref 286)⟩, ⟨(.ofNat 17), (.int (.ofNat 17) 657), (.ref 290)⟩, ⟨(.ofNat 18), (.int (.ofNat 18) 659), (.ref 293)⟩, ⟨(.ofNat 19), (.int (.ofNat 19) 661), (.ref 295)⟩, ⟨(.ofNat 20), (.int (.ofNat 20) 663), (.ref 297)⟩, ⟨(.ofNat 21), (.int (.ofNat 21) 665), (.ref 299)⟩, ⟨(.ofNat 22), (.int (.ofNat 22) 667), (.ref 302)⟩, ⟨(.ofNat 23), (.int (.ofNat 23) 669), (.ref 306)⟩, ⟨(.ofNat 25), (.int (.ofNat 25) 673), (.ref 308)⟩, ⟨(.ofNat 26), (.int (.ofNat 26) 675), (.ref 310)⟩, ⟨(.ofNat 27), (.int (.ofNat 27) 677), (.ref 313)⟩, ⟨(.ofNat 28), (.int (.ofNat 28) 679), (.ref 315)⟩, ⟨(.ofNat 30), (.int (.ofNat 30) 681), (.ref 317)⟩, ⟨(.ofNat 31), (.int (.ofNat 31) 683), (.ref 320)⟩, ⟨(.ofNat 33), (.int (.ofNat 33) 685), (.ref 322)⟩, ⟨(.ofNat 34), (.int (.ofNat 34) 687), (.ref 325)⟩, ⟨(.ofNat 35), (.int (.ofNat 35) 689), (.ref 327)⟩, ⟨(.ofNat 36), (.int (.ofNat 36) 691), (.ref 329)⟩]
noncomputable def o259 (P : Params) : Obj := ⟨(.type PySem.W.SL.s14018661285674007319x4), none, .dict ⟨(⟨(.ofNat 4), (.int (.ofNat 4) 633), (.ref 261)⟩) :: o259l P⟩ 28, ⟨[]⟩⟩
noncomputable def o260 : Obj := ⟨(.type PySem.W.SL.s2766695959194262286x5), none, .seq ⟨[(.int (.ofNat 2) 711), (.int (.ofNat 1) 705)]⟩ 0, ⟨[]⟩⟩
noncomputable def o261 : Obj := ⟨(.type PySem.W.SL.s2766695959194262286x5), none, .seq ⟨[(.ref 260)]⟩ 0, ⟨[]⟩⟩
noncomputable def o262 : Obj := ⟨(.type PySem.W.SL.s2766695959194262286x5), none, .seq ⟨[(.int (.ofNat 2) 713), (.int (.ofNat 1) 705)]⟩ 0, ⟨[]⟩⟩
noncomputable def o263 : Obj := ⟨(.type PySem.W.SL.s2766695959194262286x5), none, .seq ⟨[(.int (.ofNat 3) 714), (.int (.ofNat 1) 705)]⟩ 0, ⟨[]⟩⟩
noncomputable def o264 : Obj := ⟨(.type PySem.W.SL.s2766695959194262286x5), none, .seq ⟨[(.ref 262), (.ref 263)]⟩ 0, ⟨[]⟩⟩
noncomputable def o265 : Obj := ⟨(.type PySem.W.SL.s2766695959194262286x5), none, .seq ⟨[(.int (.ofNat 2) 716), (.int (.ofNat 1) 705)]⟩ 0, ⟨[]⟩⟩
noncomputable def o266 : Obj := ⟨(.type PySem.W.SL.s2766695959194262286x5), none, .seq ⟨[(.ref 265)]⟩ 0, ⟨[]⟩⟩
noncomputable def o267 : Obj := ⟨(.type PySem.W.SL.s2766695959194262286x5), none, .seq ⟨[(.int (.ofNat 2) 718), (.int (.ofNat 2) 707)]⟩ 0, ⟨[]⟩⟩
noncomputable def o268 : Obj := ⟨(.type PySem.W.SL.s2766695959194262286x5), none, .seq ⟨[(.int (.ofNat 4) 719), (.int (.ofNat 3) 709)]⟩ 0, ⟨[]⟩⟩
noncomputable def o269 : Obj := ⟨(.type PySem.W.SL.s2766695959194262286x5), none, .seq ⟨[(.ref 267), (.ref 268)]⟩ 0, ⟨[]⟩⟩
noncomputable def o270 : Obj := ⟨(.type PySem.W.SL.s2766695959194262286x5), none, .seq ⟨[(.int (.ofNat 3) 721), (.int (.ofNat 3) 709)]⟩ 0, ⟨[]⟩⟩
noncomputable def o271 : Obj := ⟨(.type PySem.W.SL.s2766695959194262286x5), none, .seq ⟨[(.ref 270)]⟩ 0, ⟨[]⟩⟩
noncomputable def o272 : Obj := ⟨(.type PySem.W.SL.s2766695959194262286x5), none, .seq ⟨[(.int (.ofNat 2) 723), (.int (.ofNat 1) 705)]⟩ 0, ⟨[]⟩⟩
noncomputable def o273 : Obj := ⟨(.type PySem.W.SL.s2766695959194262286x5), none, .seq ⟨[(.ref 272)]⟩ 0, ⟨[]⟩⟩
noncomputable def o274 : Obj := ⟨(.type PySem.W.SL.s2766695959194262286x5), none, .seq ⟨[(.int (.ofNat 2) 725), (.int (.ofNat 3) 709)]⟩ 0, ⟨[]⟩⟩
noncomputable def o275 : Obj := ⟨(.type PySem.W.SL.s2766695959194262286x5), none, .seq ⟨[(.ref 274)]⟩ 0, ⟨[]⟩⟩
noncomputable def o276 : Obj := ⟨(.type PySem.W.SL.s2766695959194262286x5), none, .seq ⟨[(.int (.ofNat 3) 727), (.int (.ofNat 1) 705)]⟩ 0, ⟨[]⟩⟩
noncomputable def o277 : Obj := ⟨(.type PySem.W.SL.s2766695959194262286x5), none, .seq ⟨[(.ref 276)]⟩ 0, ⟨[]⟩⟩
noncomputable def o278 : Obj := ⟨(.type PySem.W.SL.s2766695959194262286x5), none, .seq ⟨[(.int (.ofNat 3) 729), (.int (.ofNat 1) 705)]⟩ 0, ⟨[]⟩⟩
noncomputable def o279 : Obj := ⟨(.type PySem.W.SL.s2766695959194262286x5), none, .seq ⟨[(.int (.ofNat 4) 730), (.int (.ofNat 1) 705)]⟩ 0, ⟨[]⟩⟩
noncomputable def o280 : Obj := ⟨(.type PySem.W.SL.s2766695959194262286x5), none, .seq ⟨[(.ref 278), (.ref 279)]⟩ 0, ⟨[]⟩⟩
noncomputable def o281 : Obj := ⟨(.type PySem.W.SL.s2766695959194262286x5), none, .seq ⟨[(.int (.ofNat 2) 732), (.int (.ofNat 1) 705)]⟩ 0, ⟨[]⟩⟩
noncomputable def o282 : Obj := ⟨(.type PySem.W.SL.s2766695959194262286x5), none, .seq ⟨[(.int (.ofNat 3) 733), (.int (.ofNat 1) 705)]⟩ 0, ⟨[]⟩⟩
noncomputable def o283 : Obj := ⟨(.type PySem.W.SL.s2766695959194262286x5), none, .seq ⟨[(.ref 281), (.ref 282)]⟩ 0, ⟨[]⟩⟩
noncomputable def o284 : Obj := ⟨(.type PySem.W.SL.s2766695959194262286x5), none, .seq ⟨[(.int (.ofNat 2) 735), (.int (.ofNat 1) 705)]⟩ 0, ⟨[]⟩⟩
noncomputable def o285 : Obj := ⟨(.type PySem.W.SL.s2766695959194262286x5), none, .seq ⟨[(.int (.ofNat 3) 736), (.int (.ofNat 1) 705)]⟩ 0, ⟨[]⟩⟩
noncomputable def o286 : Obj := ⟨(.type PySem.W.SL.s2766695959194262286x5), none, .seq ⟨[(.ref 284), (.ref 285)]⟩ 0, ⟨[]⟩⟩
noncomputable def o287 : Obj := ⟨(.type PySem.W.SL.s2766695959194262286x5), none, .seq ⟨[(.int (.ofNat 2) 738), (.int (.ofNat 1) 705)]⟩ 0, ⟨[]⟩⟩
noncomputable def o288 : Obj := ⟨(.type PySem.W.SL.s2766695959194262286x5), none, .seq ⟨[(.int (.ofNat 3) 739), (.int (.ofNat 1) 705)]⟩ 0, ⟨[]⟩⟩
noncomputable def o289 : Obj := ⟨(.type PySem.W.SL.s2766695959194262286x5), none, .seq ⟨[(.int (.ofNat 4) 740), (.int (.ofNat 1) 705)]⟩ 0, ⟨[]⟩⟩
noncomputable def o290 : Obj := ⟨(.type PySem.W.SL.s2766695959194262286x5), none, .seq ⟨[(.ref 287), (.ref 288), (.ref 289)]⟩ 0, ⟨[]⟩⟩
noncomputable def o291 : Obj := ⟨(.type PySem.W.SL.s2766695959194262286x5), none, .seq ⟨[(.int (.ofNat 2) 742), (.int (.ofNat 1) 705)]⟩ 0, ⟨[]⟩⟩
noncomputable def o292 : Obj := ⟨(.type PySem.W.SL.s2766695959194262286x5), none, .seq ⟨[(.int (.ofNat 3) 743), (.int (.ofNat 1) 705)]⟩ 0, ⟨[]⟩⟩
noncomputable def o293 : Obj := ⟨(.type PySem.W.SL.s2766695959194262286x5), none, .seq ⟨[(.ref 291), (.ref 292)]⟩ 0, ⟨[]⟩⟩
noncomputable def o294 : Obj := ⟨(.type PySem.W.SL.s2766695959194262286x5), none, .seq ⟨[(.int (.ofNat 2) 745), (.int (.ofNat 1) 705)]⟩ 0, ⟨[]⟩⟩
noncomputable def o295 : Obj := ⟨(.type PySem.W.SL.s2766695959194262286x5), none, .seq ⟨[(.ref 294)]⟩ 0, ⟨[]⟩⟩
noncomputable def o296 : Obj := ⟨(.type PySem.W.SL.s2766695959194262286x5), none, .seq ⟨[(.int (.ofNat 2) 747), (.int (.ofNat 1) 705)]⟩ 0, ⟨[]⟩⟩
noncomputable def o297 : Obj := ⟨(.type PySem.W.SL.s2766695959194262286x5), none, .seq ⟨[(.ref 296)]⟩ 0, ⟨[]⟩⟩
noncomputable def o298 : Obj := ⟨(.type PySem.W.SL.s2766695959194262286x5), none, .seq ⟨[(.int (.ofNat 2) 749), (.int (.ofNat 1) 705)]⟩ 0, ⟨[]⟩⟩
noncomputable def o299 : Obj := ⟨(.type PySem.W.SL.s2766695959194262286x5), none, .seq ⟨[(.ref 298)]⟩ 0, ⟨[]⟩⟩
noncomputable def o300 : Obj := ⟨(.type PySem.W.SL.s2766695959194262286x5), none, .seq ⟨[(.int (.ofNat 2) 751), (.int (.ofNat 1) 705)]⟩ 0, ⟨[]⟩⟩
noncomputable def o301 : Obj := ⟨(.type PySem.W.SL.s2766695959194262286x5), none, .seq ⟨[(.int (.ofNat 3) 752), (.int (.ofNat 1) 705)]⟩ 0, ⟨[]⟩⟩
noncomputable def o302 : Obj := ⟨(.type PySem.W.SL.s2766695959194262286x5), none, .seq ⟨[(.ref 300), (.ref 301)]⟩ 0, ⟨[]⟩⟩
noncomputable def o303l (P : Params) : List DictEntry := [⟨(.ofNat 25), (.int (.ofNat 25) 673), (.ref 308)⟩, ⟨(.ofNat 26), (.int (.ofNat 26) 675), (.ref 310)⟩, ⟨(.ofNat 27), (.int (.ofNat 27) 677), (.ref 313)⟩, ⟨(.ofNat 28), (.int (.ofNat 28) 679), (.ref 315)⟩, ⟨(.ofNat 30), (.int (.ofNat 30) 681), (.ref 317)⟩, ⟨(.ofNat 31), (.int (.ofNat 31) 683), (.ref 320)⟩, ⟨(.ofNat 33), (.int (.ofNat 33) 685), (.ref 322)⟩, ⟨(.ofNat 34), (.int (.ofNat 34) 687), (.ref 325)⟩, ⟨(.ofNat 35), (.int (.ofNat 35) 689), (.ref 327)⟩, ⟨(.ofNat 36), (.int (.ofNat 36) 691), (.ref 329)⟩]
noncomputable def o303 (P : Params) : Obj := ⟨(.type PySem.W.SL.s14018661285674007319x4), none, .dict ⟨(⟨(.ofNat 23), (.int (.ofNat 23) 669), (.ref 306)⟩) :: o303l P⟩ 11, ⟨[]⟩⟩
noncomputable def o304 : Obj := ⟨(.type PySem.W.SL.s2766695959194262286x5), none, .seq ⟨[(.int (.ofNat 2) 754), (.int (.ofNat 1) 705)]⟩ 0, ⟨[]⟩⟩
noncomputable def o305 : Obj := ⟨(.type PySem.W.SL.s2766695959194262286x5), none, .seq ⟨[(.int (.ofNat 3) 755), (.int (.ofNat 1) 705)]⟩ 0, ⟨[]⟩⟩
noncomputable def o306 : Obj := ⟨(.type PySem.W.SL.s2766695959194262286x5), none, .seq ⟨[(.ref 304), (.ref 305)]⟩ 0, ⟨[]⟩⟩
noncomputable def o307 : Obj := ⟨(.type PySem.W.SL.s2766695959194262286x5), none, .seq ⟨[(.int (.ofNat 2) 756), (.int (.ofNat 2) 707)]⟩ 0, ⟨[]⟩⟩
noncomputable def o308 : Obj := ⟨(.type PySem.W.SL.s2766695959194262286x5), none, .seq ⟨[(.ref 307)]⟩ 0, ⟨[]⟩⟩
noncomputable def o309 : Obj := ⟨(.type PySem.W.SL.s2766695959194262286x5), none, .seq ⟨[(.int (.ofNat 2) 757), (.int (.ofNat 3) 709)]⟩ 0, ⟨[]⟩⟩
noncomputable def o310 : Obj := ⟨(.type PySem.W.SL.s2766695959194262286x5), none, .seq ⟨[(.ref 309)]⟩ 0, ⟨[]⟩⟩
noncomputable def o311 : Obj := ⟨(.type PySem.W.SL.s2766695959194262286x5), none, .seq ⟨[(.int (.ofNat 3) 758), (.int (.ofNat 1) 705)]⟩ 0, ⟨[]⟩⟩
noncomputable def o312 : Obj := ⟨(.type PySem.W.SL.s2766695959194262286x5), none, .seq ⟨[(.int (.ofNat 4) 759), (.int (.ofNat 1) 705)]⟩ 0, ⟨[]⟩⟩
noncomputable def o313 : Obj := ⟨(.type PySem.W.SL.s2766695959194262286x5), none, .seq ⟨[(.ref 311), (.ref 312)]⟩ 0, ⟨[]⟩⟩
noncomputable def o314 : Obj := ⟨(.type PySem.W.SL.s2766695959194262286x5), none, .seq ⟨[(.int (.ofNat 3) 760), (.int (.ofNat 1) 705)]⟩ 0, ⟨[]⟩⟩
noncomputable def o315 : Obj := ⟨(.type PySem.W.SL.s2766695959194262286x5), none, .seq ⟨[(.ref 314)]⟩ 0, ⟨[]⟩⟩
noncomputable def o316 : Obj := ⟨(.type PySem.W.SL.s2766695959194262286x5), none, .seq ⟨[(.int (.ofNat 2) 761), (.int (.ofNat 1) 705)]⟩ 0, ⟨[]⟩⟩
noncomputable def o317 : Obj := ⟨(.type PySem.W.SL.s2766695959194262286x5), none, .seq ⟨[(.ref 316)]⟩ 0, ⟨[]⟩⟩
noncomputable def o318 : Obj := ⟨(.type PySem.W.SL.s2766695959194262286x5), none, .seq ⟨[(.int (.ofNat 2) 762), (.int (.ofNat 3) 709)]⟩ 0, ⟨[]⟩⟩
noncomputable def o319 : Obj := ⟨(.type PySem.W.SL.s2766695959194262286x5), none, .seq ⟨[(.int (.ofNat 3) 763), (.int (.ofNat 1) 705)]⟩ 0, ⟨[]⟩⟩
noncomputable def o320 : Obj := ⟨(.type PySem.W.SL.s2766695959194262286x5), none, .seq ⟨[(.ref 318), (.ref 319)]⟩ 0, ⟨[]⟩⟩
noncomputable def o321 : Obj := ⟨(.type PySem.W.SL.s2766695959194262286x5), none, .seq ⟨[(.int (.ofNat 2) 764), (.int (.ofNat 1) 705)]⟩ 0, ⟨[]⟩⟩
noncomputable def o322 : Obj := ⟨(.type PySem.W.SL.s2766695959194262286x5), none, .seq ⟨[(.ref 321)]⟩ 0, ⟨[]⟩⟩
noncomputable def o323 : Obj := ⟨(.type PySem.W.SL.s2766695959194262286x5), none, .seq ⟨[(.int (.ofNat 2) 765), (.int (.ofNat 2) 707)]⟩ 0, ⟨[]⟩⟩
noncomputable def o324 : Obj := ⟨(.type PySem.W.SL.s2766695959194262286x5), none, .seq ⟨[(.int (.ofNat 5) 766), (.int (.ofNat 3) 709)]⟩ 0, ⟨[]⟩⟩
noncomputable def o325 : Obj := ⟨(.type PySem.W.SL.s2766695959194262286x5), none, .seq ⟨[(.ref 323), (.ref 324)]⟩ 0, ⟨[]⟩⟩
noncomputable def o326 : Obj := ⟨(.type PySem.W.SL.s2766695959194262286x5), none, .seq ⟨[(.int (.ofNat 3) 767), (.int (.ofNat 3) 709)]⟩ 0, ⟨[]⟩⟩
noncomputable def o327 : Obj := ⟨(.type PySem.W.SL.s2766695959194262286x5), none, .seq ⟨[(.ref 326)]⟩ 0, ⟨[]⟩⟩
noncomputable def o328 : Obj := ⟨(.type PySem.W.SL.s2766695959194262286x5), none, .seq ⟨[(.int (.ofNat 2) 768), (.int (.ofNat 2) 707)]⟩ 0, ⟨[]⟩⟩
noncomputable def o329 : Obj := ⟨(.type PySem.W.SL.s2766695959194262286x5), none, .seq ⟨[(.ref 328)]⟩ 0, ⟨[]⟩⟩
noncomputable def T11 (P : Params) : BT := setAll (insAll (T10 P) 259 [(o259 P), o260, o261, o262, o263, o264, o265, o266, o267, o268, o269, o270, o271, o272, o273, o274, o275, o276, o277, o278, o279, o280, o281, o282, o283, o284, o285, o286, o287, o288, o289, o290, o291, o292, o293, o294, o295, o296, o297, o298, o299, o300, o301, o302, (o303 P), o304, o305, o306, o307, o308, o309, o310, o311, o312, o313, o314, o315, o316, o317, o318, o319, o320, o321, o322, o323, o324, o325, o326, o327, o328, o329]) [(3, (o3v11 P))]
noncomputable def o3v12l (P : Params) : List DictEntry := o3v11l P ++ [ke P z158 818 (.ref 346), ke P z159 830 (.ref 357), ke P z160 837 (.ref 364), ke P z161 850 (.ref 371)]
noncomputable def o3v12 (P : Params) : Obj := ⟨(.type PySem.W.SL.s14018661285674007319x4), none, .dict ⟨(ke P z15 165 (.str z162 851)) :: o3v12l P⟩ 110, ⟨[]⟩⟩
noncomputable def o12v12f : List Value := o12v9f ++ [(.int (.ofNat 236) 0), (.int (.ofNat 0) 0), (.ref 335), (.int (.ofNat 248) 0), (.int (.ofNat 0) 0), (.ref 356), (.int (.ofNat 257) 0), (.int (.ofNat 0) 0), (.ref 363), (.int (.ofNat 259) 0), (.int (.ofNat 0) 0), (.ref 370)]
noncomputable def o12v12 : Obj := ⟨.none, none, .fields ⟨o12v12f⟩, ⟨[]⟩⟩
noncomputable def o330 : Obj := ⟨(.type PySem.W.SL.s2766695959194262286x5), none, .seq ⟨[]⟩ 0, ⟨[]⟩⟩
noncomputable def o331 : Obj := ⟨(.type PySem.W.SL.s11030030927630378310x26), none, .fields ⟨[(.builtin PySem.W.SL.s10062305145149207511x16), (.type PySem.W.SL.s17162191345867700912x4)]⟩, ⟨[]⟩⟩
noncomputable def o332l (P : Params) : List DictEntry := [ke P z18 790 (.str z158 789), ke P z19 792 (.int (.ofNat 236) 791), ke P z20 801 (.ref 343), ke P z21 811 (.ref 344)]
noncomputable def o332 (P : Params) : Obj := ⟨(.type PySem.W.SL.s14018661285674007319x4), none, .dict ⟨(ke P z22 788 (.str z115 627)) :: o332l P⟩ 5, ⟨[]⟩⟩
noncomputable def o333 : Obj := ⟨(.type PySem.W.SL.s2766695959194262286x5), none, .seq ⟨[]⟩ 0, ⟨[]⟩⟩
noncomputable def o334 : Obj := ⟨.none, none, .fields ⟨[(.int (.ofNat 238) 0), (.int (.ofNat 4) 0), (.ref 342)]⟩, ⟨[]⟩⟩
noncomputable def o335 : Obj := ⟨(.type PySem.W.SL.s5856160107412720595x4), none, .fields ⟨[(.str z158 783), (.str z158 784), (.str z1 785), (.int (.ofNat 236) 0), (.int (.ofNat 0) 0), (.int (.ofNat 0) 0), (.int (.ofNat 0) 0), (.int (.ofNat 0) 0), (.ref 333), (.bool false), (.int (.ofNat 181) 0), (.ref 334), .none, .none, .none, .none, (.int (.ofNat 786) 0), (.int (.ofNat 236) 0), (.str z1 787)]⟩, ⟨[]⟩⟩
noncomputable def o336 : Obj := ⟨(.type PySem.W.SL.s658472552662922059x5), none, .plain, ⟨[some (.ref 335), some (.ref 3), some (.ref 332), none, some (.str z115 627), none, some (.ref 0)]⟩⟩
noncomputable def o337 : Obj := ⟨(.type PySem.W.SL.s2766695959194262286x5), none, .seq ⟨[]⟩ 0, ⟨[]⟩⟩
noncomputable def o338 : Obj := ⟨.none, none, .fields ⟨[]⟩, ⟨[]⟩⟩
noncomputable def o339 : Obj := ⟨(.type PySem.W.SL.s2766695959194262286x5), none, .seq ⟨[(.str z23 796), (.str z163 797), (.str z164 798)]⟩ 0, ⟨[]⟩⟩
noncomputable def o340 : Obj := ⟨(.type PySem.W.SL.s2766695959194262286x5), none, .seq ⟨[]⟩ 0, ⟨[]⟩⟩
noncomputable def o341 : Obj := ⟨.none, none, .func (fd (me 101 0) z20 z165 0 0 .none .none), ⟨[]⟩⟩
noncomputable def o342 : Obj := ⟨(.type PySem.W.SL.s5856160107412720595x4), none, .fields ⟨[(.str z20 793), (.str z165 794), (.str z1 795), (.int (.ofNat 238) 0), (.int (.ofNat 3) 0), (.int (.ofNat 0) 0), (.int (.ofNat 0) 0), (.int (.ofNat 3) 0), (.ref 337), (.bool true), (.int (.ofNat 181) 0), (.ref 338), .none, (.ref 339), (.ref 340), (.ref 341), (.int (.ofNat 799) 0), (.int (.ofNat 238) 0), (.str z1 800)]⟩, ⟨[]⟩⟩
noncomputable def o343 : Obj := ⟨(.type PySem.W.SL.s7174869446012820540x8), none, .func (fd (me 101 0) z20 z165 3 0 (.str z115 627) (.ref 342)), ⟨[]⟩⟩
noncomputable def o344 : Obj := ⟨(.type PySem.W.SL.s2766695959194262286x5), none, .seq ⟨[(.str z164 802), (.str z166 803), (.str z167 804), (.str z168 805), (.str z169 806), (.str z170 807), (.str z171 808), (.str z163 809), (.str z172 810)]⟩ 0, ⟨[]⟩⟩
noncomputable def o345l (P : Params) : List DictEntry := [ke P z19 792 (.int (.ofNat 236) 791), ke P z20 801 (.ref 343), ke P z21 811 (.ref 344), ke P z84 813 (.ref 347), ke P z27 815 (.ref 348), ke P z5 816 .none]
noncomputable def o345 (P : Params) : Obj := ⟨(.type PySem.W.SL.s14018661285674007319x4), none, .dict ⟨(ke P z22 788 (.str z115 627)) :: o345l P⟩ 4, ⟨[]⟩⟩
noncomputable def o346 : Obj := ⟨(.type PySem.W.SL.s17162191345867700912x4), none, .cls (cd z158 [(.type PySem.W.SL.s2742458400755230247x6)] [(.ref 346), (.type PySem.W.SL.s2742458400755230247x6)] 345 z158 true [] false), ⟨[none, none, some (.str z158 781), some (.str z158 789), some (.builtin PySem.W.SL.s11443829558043349243x14), some (.bool true)]⟩⟩
noncomputable def o347 : Obj := ⟨(.type PySem.W.SL.s14755015743595814543x17), none, .fields ⟨[(.str z84 812), (.ref 346), (.builtin PySem.W.SL.s6511155373996960695x17), (.builtin PySem.W.SL.s12411053484034534018x21)]⟩, ⟨[]⟩⟩
noncomputable def o348 : Obj := ⟨(.type PySem.W.SL.s14755015743595814543x17), none, .fields ⟨[(.str z27 814), (.ref 346), (.builtin PySem.W.SL.s10220274742760427390x26), .none]⟩, ⟨[]⟩⟩
noncomputable def o349 : Obj := ⟨(.type PySem.W.SL.s4290257624100764138x5), none, .fields ⟨[(.ref 346), (.ref 346), (.ref 346)]⟩, ⟨[]⟩⟩
noncomputable def o350 : Obj := ⟨(.type PySem.W.SL.s11030030927630378310x26), none, .fields ⟨[(.builtin PySem.W.SL.s4860613602091757760x24), (.ref 346)]⟩, ⟨[]⟩⟩
noncomputable def o351 : Obj := ⟨(.type PySem.W.SL.s2766695959194262286x5), none, .seq ⟨[]⟩ 0, ⟨[]⟩⟩
noncomputable def o352 : Obj := ⟨.none, none, .fields ⟨[]⟩, ⟨[]⟩⟩
noncomputable def o353 : Obj := ⟨(.type PySem.W.SL.s2766695959194262286x5), none, .seq ⟨[(.str z67 822), (.str z173 823), (.str z174 824), (.str z175 825), (.str z85 826), (.str z176 827)]⟩ 0, ⟨[]⟩⟩
noncomputable def o354 : Obj := ⟨(.type PySem.W.SL.s2766695959194262286x5), none, .seq ⟨[]⟩ 0, ⟨[]⟩⟩
noncomputable def o355 : Obj := ⟨.none, none, .func (fd (st 102) z159 z159 0 0 .none .none), ⟨[]⟩⟩
noncomputable def o356 : Obj := ⟨(.type PySem.W.SL.s5856160107412720595x4), none, .fields ⟨[(.str z159 819), (.str z159 820), (.str z1 821), (.int (.ofNat 248) 0), (.int (.ofNat 2) 0), (.int (.ofNat 0) 0), (.int (.ofNat 0) 0), (.int (.ofNat 3) 0), (.ref 351), (.bool true), (.int (.ofNat 181) 0), (.ref 352), .none, (.ref 353), (.ref 354), (.ref 355), (.int (.ofNat 828) 0), (.int (.ofNat 248) 0), (.str z1 829)]⟩, ⟨[]⟩⟩
noncomputable def o357 : Obj := ⟨(.type PySem.W.SL.s7174869446012820540x8), none, .func (fd (st 102) z159 z159 3 0 (.str z115 627) (.ref 356)), ⟨[]⟩⟩
noncomputable def o358 : Obj := ⟨(.type PySem.W.SL.s2766695959194262286x5), none, .seq ⟨[]⟩ 0, ⟨[]⟩⟩
noncomputable def o359 : Obj := ⟨.none, none, .fields ⟨[]⟩, ⟨[]⟩⟩
noncomputable def o360 : Obj := ⟨(.type PySem.W.SL.s2766695959194262286x5), none, .seq ⟨[(.str z177 834)]⟩ 0, ⟨[]⟩⟩
noncomputable def o361 : Obj := ⟨(.type PySem.W.SL.s2766695959194262286x5), none, .seq ⟨[]⟩ 0, ⟨[]⟩⟩
noncomputable def o362 : Obj := ⟨.none, none, .func (fd (st 103) z160 z160 0 0 .none .none), ⟨[]⟩⟩
noncomputable def o363 : Obj := ⟨(.type PySem.W.SL.s5856160107412720595x4), none, .fields ⟨[(.str z160 831), (.str z160 832), (.str z1 833), (.int (.ofNat 257) 0), (.int (.ofNat 1) 0), (.int (.ofNat 0) 0), (.int (.ofNat 0) 0), (.int (.ofNat 3) 0), (.ref 358), (.bool true), (.int (.ofNat 181) 0), (.ref 359), .none, (.ref 360), (.ref 361), (.ref 362), (.int (.ofNat 835) 0), (.int (.ofNat 257) 0), (.str z1 836)]⟩, ⟨[]⟩⟩
noncomputable def o364 : Obj := ⟨(.type PySem.W.SL.s7174869446012820540x8), none, .func (fd (st 103) z160 z160 3 0 (.str z115 627) (.ref 363)), ⟨[]⟩⟩
noncomputable def o365 : Obj := ⟨(.type PySem.W.SL.s2766695959194262286x5), none, .seq ⟨[]⟩ 0, ⟨[]⟩⟩
noncomputable def o366 : Obj := ⟨.none, none, .fields ⟨[]⟩, ⟨[]⟩⟩
noncomputable def o367 : Obj := ⟨(.type PySem.W.SL.s2766695959194262286x5), none, .seq ⟨[(.str z177 841), (.str z178 842), (.str z67 843), (.str z25 844), (.str z175 845), (.str z85 846), (.str z176 847)]⟩ 0, ⟨[]⟩⟩
noncomputable def o368 : Obj := ⟨(.type PySem.W.SL.s2766695959194262286x5), none, .seq ⟨[]⟩ 0, ⟨[]⟩⟩
noncomputable def o369 : Obj := ⟨.none, none, .func (fd (st 104) z161 z161 0 0 .none .none), ⟨[]⟩⟩
noncomputable def o370 : Obj := ⟨(.type PySem.W.SL.s5856160107412720595x4), none, .fields ⟨[(.str z161 838), (.str z161 839), (.str z1 840), (.int (.ofNat 259) 0), (.int (.ofNat 2) 0), (.int (.ofNat 0) 0), (.int (.ofNat 0) 0), (.int (.ofNat 3) 0), (.ref 365), (.bool true), (.int (.ofNat 181) 0), (.ref 366), .none, (.ref 367), (.ref 368), (.ref 369), (.int (.ofNat 848) 0), (.int (.ofNat 259) 0), (.str z1 849)]⟩, ⟨[]⟩⟩
noncomputable def o371 : Obj := ⟨(.type PySem.W.SL.s7174869446012820540x8), none, .func (fd (st 104) z161 z161 3 0 (.str z115 627) (.ref 370)), ⟨[]⟩⟩
noncomputable def T12 (P : Params) : BT := setAll (insAll (T11 P) 330 [o330, o331, (o332 P), o333, o334, o335, o336, o337, o338, o339, o340, o341, o342, o343, o344, (o345 P), o346, o347, o348, o349, o350, o351, o352, o353, o354, o355, o356, o357, o358, o359, o360, o361, o362, o363, o364, o365, o366, o367, o368, o369, o370, o371]) [(3, (o3v12 P)), (12, o12v12)]
noncomputable def o3v13l (P : Params) : List DictEntry := o3v12l P ++ [ke P z179 881 (.ref 388)]
noncomputable def o3v13 (P : Params) : Obj := ⟨(.type PySem.W.SL.s14018661285674007319x4), none, .dict ⟨(ke P z15 165 (.str z162 851)) :: o3v13l P⟩ 111, ⟨[]⟩⟩
noncomputable def o12v13f : List Value := o12v12f ++ [(.int (.ofNat 272) 0), (.int (.ofNat 0) 0), (.ref 377)]
noncomputable def o12v13 : Obj := ⟨.none, none, .fields ⟨o12v13f⟩, ⟨[]⟩⟩
noncomputable def o372 : Obj := ⟨(.type PySem.W.SL.s2766695959194262286x5), none, .seq ⟨[]⟩ 0, ⟨[]⟩⟩
noncomputable def o373 : Obj := ⟨(.type PySem.W.SL.s11030030927630378310x26), none, .fields ⟨[(.builtin PySem.W.SL.s10062305145149207511x16), (.type PySem.W.SL.s17162191345867700912x4)]⟩, ⟨[]⟩⟩
noncomputable def o374l (P : Params) : List DictEntry := [ke P z18 862 (.str z179 861), ke P z19 864 (.int (.ofNat 272) 863), ke P z180 873 (.ref 385), ke P z21 874 (.ref 386)]
noncomputable def o374 (P : Params) : Obj := ⟨(.type PySem.W.SL.s14018661285674007319x4), none, .dict ⟨(ke P z22 860 (.str z162 851)) :: o374l P⟩ 5, ⟨[]⟩⟩
noncomputable def o375 : Obj := ⟨(.type PySem.W.SL.s2766695959194262286x5), none, .seq ⟨[]⟩ 0, ⟨[]⟩⟩
noncomputable def o376 : Obj := ⟨.none, none, .fields ⟨[(.int (.ofNat 274) 0), (.int (.ofNat 4) 0), (.ref 384)]⟩, ⟨[]⟩⟩
noncomputable def o377 : Obj := ⟨(.type PySem.W.SL.s5856160107412720595x4), none, .fields ⟨[(.str z179 855), (.str z179 856), (.str z1 857), (.int (.ofNat 272) 0), (.int (.ofNat 0) 0), (.int (.ofNat 0) 0), (.int (.ofNat 0) 0), (.int (.ofNat 0) 0), (.ref 375), (.bool false), (.int (.ofNat 181) 0), (.ref 376), .none, .none, .none, .none, (.int (.ofNat 858) 0), (.int (.ofNat 272) 0), (.str z1 859)]⟩, ⟨[]⟩⟩
noncomputable def o378 : Obj := ⟨(.type PySem.W.SL.s658472552662922059x5), none, .plain, ⟨[some (.ref 377), some (.ref 3), some (.ref 374), none, some (.str z162 851), none, some (.ref 0)]⟩⟩
noncomputable def o379 : Obj := ⟨(.type PySem.W.SL.s2766695959194262286x5), none, .seq ⟨[]⟩ 0, ⟨[]⟩⟩
noncomputable def o380 : Obj := ⟨.none, none, .fields ⟨[]⟩, ⟨[]⟩⟩
noncomputable def o381 : Obj := ⟨(.type PySem.W.SL.s2766695959194262286x5), none, .seq ⟨[(.str z23 868), (.str z181 869), (.str z177 870)]⟩ 0, ⟨[]⟩⟩
noncomputable def o382 : Obj := ⟨(.type PySem.W.SL.s2766695959194262286x5), none, .seq ⟨[]⟩ 0, ⟨[]⟩⟩
noncomputable def o383 : Obj := ⟨.none, none, .func (fd (me 106 0) z180 z182 0 0 .none .none), ⟨[]⟩⟩
noncomputable def o384 : Obj := ⟨(.type PySem.W.SL.s5856160107412720595x4), none, .fields ⟨[(.str z180 865), (.str z182 866), (.str z1 867), (.int (.ofNat 274) 0), (.int (.ofNat 3) 0), (.int (.ofNat 0) 0), (.int (.ofNat 0) 0), (.int (.ofNat 3) 0), (.ref 379), (.bool true), (.int (.ofNat 181) 0), (.ref 380), .none, (.ref 381), (.ref 382), (.ref 383), (.int (.ofNat 871) 0), (.int (.ofNat 274) 0), (.str z1 872)]⟩, ⟨[]⟩⟩
noncomputable def o385 : Obj := ⟨(.type PySem.W.SL.s7174869446012820540x8), none, .func (fd (me 106 0) z180 z182 3 0 (.str z162 851) (.ref 384)), ⟨[]⟩⟩
noncomputable def o386 : Obj := ⟨(.type PySem.W.SL.s2766695959194262286x5), none, .seq ⟨[]⟩ 0, ⟨[]⟩⟩
noncomputable def o387l (P : Params) : List DictEntry := [ke P z19 864 (.int (.ofNat 272) 863), ke P z180 873 (.ref 385), ke P z21 874 (.ref 386), ke P z84 876 (.ref 389), ke P z27 878 (.ref 390), ke P z5 879 .none]
noncomputable def o387 (P : Params) : Obj := ⟨(.type PySem.W.SL.s14018661285674007319x4), none, .dict ⟨(ke P z22 860 (.str z162 851)) :: o387l P⟩ 4, ⟨[]⟩⟩
noncomputable def o388 : Obj := ⟨(.type PySem.W.SL.s17162191345867700912x4), none, .cls (cd z179 [(.type PySem.W.SL.s2742458400755230247x6)] [(.ref 388), (.type PySem.W.SL.s2742458400755230247x6)] 387 z179 true [] false), ⟨[none, none, some (.str z179 853), some (.str z179 861), some (.builtin PySem.W.SL.s11443829558043349243x14), some (.bool true)]⟩⟩
noncomputable def o389 : Obj := ⟨(.type PySem.W.SL.s14755015743595814543x17), none, .fields ⟨[(.str z84 875), (.ref 388), (.builtin PySem.W.SL.s6511155373996960695x17), (.builtin PySem.W.SL.s12411053484034534018x21)]⟩, ⟨[]⟩⟩
noncomputable def o390 : Obj := ⟨(.type PySem.W.SL.s14755015743595814543x17), none, .fields ⟨[(.str z27 877), (.ref 388), (.builtin PySem.W.SL.s10220274742760427390x26), .none]⟩, ⟨[]⟩⟩
noncomputable def o391 : Obj := ⟨(.type PySem.W.SL.s4290257624100764138x5), none, .fields ⟨[(.ref 388), (.ref 388), (.ref 388)]⟩, ⟨[]⟩⟩
noncomputable def o392 : Obj := ⟨(.type PySem.W.SL.s11030030927630378310x26), none, .fields ⟨[(.builtin PySem.W.SL.s4860613602091757760x24), (.ref 388)]⟩, ⟨[]⟩⟩
noncomputable def T13 (P : Params) : BT := setAll (insAll (T12 P) 372 [o372, o373, (o374 P), o375, o376, o377, o378, o379, o380, o381, o382, o383, o384, o385, o386, (o387 P), o388, o389, o390, o391, o392]) [(3, (o3v13 P)), (12, o12v13)]
noncomputable def o3v14l (P : Params) : List DictEntry := o3v13l P ++ [ke P z183 919 (.ref 416)]
noncomputable def o3v14 (P : Params) : Obj := ⟨(.type PySem.W.SL.s14018661285674007319x4), none, .dict ⟨(ke P z15 165 (.str z162 851)) :: o3v14l P⟩ 112, ⟨[]⟩⟩
noncomputable def o12v14f : List Value := o12v13f ++ [(.int (.ofNat 276) 0), (.int (.ofNat 0) 0), (.ref 398)]
noncomputable def o12v14 : Obj := ⟨.none, none, .fields ⟨o12v14f⟩, ⟨[]⟩⟩
noncomputable def o393 : Obj := ⟨(.type PySem.W.SL.s2766695959194262286x5), none, .seq ⟨[]⟩ 0, ⟨[]⟩⟩
noncomputable def o394 : Obj := ⟨(.type PySem.W.SL.s11030030927630378310x26), none, .fields ⟨[(.builtin PySem.W.SL.s10062305145149207511x16), (.type PySem.W.SL.s17162191345867700912x4)]⟩, ⟨[]⟩⟩
noncomputable def o395l (P : Params) : List DictEntry := [ke P z18 891 (.str z183 890), ke P z19 893 (.int (.ofNat 276) 892), ke P z184 902 (.ref 406), ke P z185 911 (.ref 413), ke P z21 912 (.ref 414)]
noncomputable def o395 (P : Params) : Obj := ⟨(.type PySem.W.SL.s14018661285674007319x4), none, .dict ⟨(ke P z22 889 (.str z162 851)) :: o395l P⟩ 6, ⟨[]⟩⟩
noncomputable def o396 : Obj := ⟨(.type PySem.W.SL.s2766695959194262286x5), none, .seq ⟨[]⟩ 0, ⟨[]⟩⟩
noncomputable def o397 : Obj := ⟨.none, none, .fields ⟨[(.int (.ofNat 278) 0), (.int (.ofNat 4) 0), (.ref 405), (.int (.ofNat 281) 0), (.int (.ofNat 4) 0), (.ref 412)]⟩, ⟨[]⟩⟩
noncomputable def o398 : Obj := ⟨(.type PySem.W.SL.s5856160107412720595x4), none, .fields ⟨[(.str z183 884), (.str z183 885), (.str z1 886), (.int (.ofNat 276) 0), (.int (.ofNat 0) 0), (.int (.ofNat 0) 0), (.int (.ofNat 0) 0), (.int (.ofNat 0) 0), (.ref 396), (.bool false), (.int (.ofNat 181) 0), (.ref 397), .none, .none, .none, .none, (.int (.ofNat 887) 0), (.int (.ofNat 276) 0), (.str z1 888)]⟩, ⟨[]⟩⟩
noncomputable def o399 : Obj := ⟨(.type PySem.W.SL.s658472552662922059x5), none, .plain, ⟨[some (.ref 398), some (.ref 3), some (.ref 395), none, some (.str z162 851), none, some (.ref 0)]⟩⟩
noncomputable def o400 : Obj := ⟨(.type PySem.W.SL.s2766695959194262286x5), none, .seq ⟨[]⟩ 0, ⟨[]⟩⟩
noncomputable def o401 : Obj := ⟨.none, none, .fields ⟨[]⟩, ⟨[]⟩⟩
noncomputable def o402 : Obj := ⟨(.type PySem.W.SL.s2766695959194262286x5), none, .seq ⟨[(.str z23 897), (.str z181 898), (.str z177 899)]⟩ 0, ⟨[]⟩⟩
noncomputable def o403 : Obj := ⟨(.type PySem.W.SL.s2766695959194262286x5), none, .seq ⟨[]⟩ 0, ⟨[]⟩⟩
noncomputable def o404 : Obj := ⟨.none, none, .func (fd (me 107 0) z184 z186 0 0 .none .none), ⟨[]⟩⟩
noncomputable def o405 : Obj := ⟨(.type PySem.W.SL.s5856160107412720595x4), none, .fields ⟨[(.str z184 894), (.str z186 895), (.str z1 896), (.int (.ofNat 278) 0), (.int (.ofNat 3) 0), (.int (.ofNat 0) 0), (.int (.ofNat 0) 0), (.int (.ofNat 3) 0), (.ref 400), (.bool true), (.int (.ofNat 181) 0), (.ref 401), .none, (.ref 402), (.ref 403), (.ref 404), (.int (.ofNat 900) 0), (.int (.ofNat 278) 0), (.str z1 901)]⟩, ⟨[]⟩⟩
noncomputable def o406 : Obj := ⟨(.type PySem.W.SL.s7174869446012820540x8), none, .func (fd (me 107 0) z184 z186 3 0 (.str z162 851) (.ref 405)), ⟨[]⟩⟩
noncomputable def o407 : Obj := ⟨(.type PySem.W.SL.s2766695959194262286x5), none, .seq ⟨[]⟩ 0, ⟨[]⟩⟩
noncomputable def o408 : Obj := ⟨.none, none, .fields ⟨[]⟩, ⟨[]⟩⟩
noncomputable def o409 : Obj := ⟨(.type PySem.W.SL.s2766695959194262286x5), none, .seq ⟨[(.str z23 906), (.str z181 907), (.str z177 908)]⟩ 0, ⟨[]⟩⟩
noncomputable def o410 : Obj := ⟨(.type PySem.W.SL.s2766695959194262286x5), none, .seq ⟨[]⟩ 0, ⟨[]⟩⟩
noncomputable def o411 : Obj := ⟨.none, none, .func (fd (me 107 1) z185 z187 0 0 .none .none), ⟨[]⟩⟩
noncomputable def o412 : Obj := ⟨(.type PySem.W.SL.s5856160107412720595x4), none, .fields ⟨[(.str z185 903), (.str z187 904), (.str z1 905), (.int (.ofNat 281) 0), (.int (.ofNat 3) 0), (.int (.ofNat 0) 0), (.int (.ofNat 0) 0), (.int (.ofNat 3) 0), (.ref 407), (.bool true), (.int (.ofNat 181) 0), (.ref 408), .none, (.ref 409), (.ref 410), (.ref 411), (.int (.ofNat 909) 0), (.int (.ofNat 281) 0), (.str z1 910)]⟩, ⟨[]⟩⟩
noncomputable def o413 : Obj := ⟨(.type PySem.W.SL.s7174869446012820540x8), none, .func (fd (me 107 1) z185 z187 3 0 (.str z162 851) (.ref 412)), ⟨[]⟩⟩
noncomputable def o414 : Obj := ⟨(.type PySem.W.SL.s2766695959194262286x5), none, .seq ⟨[]⟩ 0, ⟨[]⟩⟩
noncomputable def o415l (P : Params) : List DictEntry := [ke P z19 893 (.int (.ofNat 276) 892), ke P z184 902 (.ref 406), ke P z185 911 (.ref 413), ke P z21 912 (.ref 414), ke P z84 914 (.ref 417), ke P z27 916 (.ref 418), ke P z5 917 .none]
noncomputable def o415 (P : Params) : Obj := ⟨(.type PySem.W.SL.s14018661285674007319x4), none, .dict ⟨(ke P z22 889 (.str z162 851)) :: o415l P⟩ 4, ⟨[]⟩⟩
noncomputable def o416 : Obj := ⟨(.type PySem.W.SL.s17162191345867700912x4), none, .cls (cd z183 [(.type PySem.W.SL.s2742458400755230247x6)] [(.ref 416), (.type PySem.W.SL.s2742458400755230247x6)] 415 z183 true [] false), ⟨[none, none, some (.str z183 882), some (.str z183 890), some (.builtin PySem.W.SL.s11443829558043349243x14), some (.bool true)]⟩⟩
noncomputable def o417 : Obj := ⟨(.type PySem.W.SL.s14755015743595814543x17), none, .fields ⟨[(.str z84 913), (.ref 416), (.builtin PySem.W.SL.s6511155373996960695x17), (.builtin PySem.W.SL.s12411053484034534018x21)]⟩, ⟨[]⟩⟩
noncomputable def o418 : Obj := ⟨(.type PySem.W.SL.s14755015743595814543x17), none, .fields ⟨[(.str z27 915), (.ref 416), (.builtin PySem.W.SL.s10220274742760427390x26), .none]⟩, ⟨[]⟩⟩
noncomputable def o419 : Obj := ⟨(.type PySem.W.SL.s4290257624100764138x5), none, .fields ⟨[(.ref 416), (.ref 416), (.ref 416)]⟩, ⟨[]⟩⟩
noncomputable def o420 : Obj := ⟨(.type PySem.W.SL.s11030030927630378310x26), none, .fields ⟨[(.builtin PySem.W.SL.s4860613602091757760x24), (.ref 416)]⟩, ⟨[]⟩⟩
noncomputable def T14 (P : Params) : BT := setAll (insAll (T13 P) 393 [o393, o394, (o395 P), o396, o397, o398, o399, o400, o401, o402, o403, o404, o405, o406, o407, o408, o409, o410, o411, o412, o413, o414, (o415 P), o416, o417, o418, o419, o420]) [(3, (o3v14 P)), (12, o12v14)]
noncomputable def o3v15l (P : Params) : List DictEntry := o3v14l P ++ [ke P z188 1005 (.ref 479)]
noncomputable def o3v15 (P : Params) : Obj := ⟨(.type PySem.W.SL.s14018661285674007319x4), none, .dict ⟨(ke P z15 165 (.str z162 851)) :: o3v15l P⟩ 113, ⟨[]⟩⟩
noncomputable def o12v15f : List Value := o12v14f ++ [(.int (.ofNat 283) 0), (.int (.ofNat 0) 0), (.ref 426)]
noncomputable def o12v15 : Obj := ⟨.none, none, .fields ⟨o12v15f⟩, ⟨[]⟩⟩
noncomputable def o421 : Obj := ⟨(.type PySem.W.SL.s2766695959194262286x5), none, .seq ⟨[]⟩ 0, ⟨[]⟩⟩
noncomputable def o422 : Obj := ⟨(.type PySem.W.SL.s11030030927630378310x26), none, .fields ⟨[(.builtin PySem.W.SL.s10062305145149207511x16), (.type PySem.W.SL.s17162191345867700912x4)]⟩, ⟨[]⟩⟩
noncomputable def o423l (P : Params) : List DictEntry := [ke P z18 929 (.str z188 928), ke P z19 931 (.int (.ofNat 283) 930), ke P z20 940 (.ref 434), ke P z189 948 (.ref 441), ke P z190 956 (.ref 448), ke P z68 964 (.ref 455), ke P z191 971 (.ref 462), ke P z192 979 (.ref 469), ke P z193 987 (.ref 476), ke P z21 998 (.ref 477)]
noncomputable def o423 (P : Params) : Obj := ⟨(.type PySem.W.SL.s14018661285674007319x4), none, .dict ⟨(ke P z22 927 (.str z162 851)) :: o423l P⟩ 11, ⟨[]⟩⟩
noncomputable def o424 : Obj := ⟨(.type PySem.W.SL.s2766695959194262286x5), none, .seq ⟨[]⟩ 0, ⟨[]⟩⟩
noncomputable def o425 : Obj := ⟨.none, none, .fields ⟨[(.int (.ofNat 285) 0), (.int (.ofNat 4) 0), (.ref 433), (.int (.ofNat 297) 0), (.int (.ofNat 4) 0), (.ref 440), (.int (.ofNat 300) 0), (.int (.ofNat 4) 0), (.ref 447), (.int (.ofNat 303) 0), (.int (.ofNat 4) 0), (.ref 454), (.int (.ofNat 306) 0), (.int (.ofNat 4) 0), (.ref 461), (.int (.ofNat 309) 0), (.int (.ofNat 4) 0), (.ref 468), (.int (.ofNat 312) 0), (.int (.ofNat 4) 0), (.ref 475)]⟩, ⟨[]⟩⟩
noncomputable def o426 : Obj := ⟨(.type PySem.W.SL.s5856160107412720595x4), none, .fields ⟨[(.str z188 922), (.str z188 923), (.str z1 924), (.int (.ofNat 283) 0), (.int (.ofNat 0) 0), (.int (.ofNat 0) 0), (.int (.ofNat 0) 0), (.int (.ofNat 0) 0), (.ref 424), (.bool false), (.int (.ofNat 181) 0), (.ref 425), .none, .none, .none, .none, (.int (.ofNat 925) 0), (.int (.ofNat 283) 0), (.str z1 926)]⟩, ⟨[]⟩⟩
noncomputable def o427 : Obj := ⟨(.type PySem.W.SL.s658472552662922059x5), none, .plain, ⟨[some (.ref 426), some (.ref 3), some (.ref 423), none, some (.str z162 851), none, some (.ref 0)]⟩⟩
noncomputable def o428 : Obj := ⟨(.type PySem.W.SL.s2766695959194262286x5), none, .seq ⟨[]⟩ 0, ⟨[]⟩⟩
noncomputable def o429 : Obj := ⟨.none, none, .fields ⟨[]⟩, ⟨[]⟩⟩
noncomputable def o430 : Obj := ⟨(.type PySem.W.SL.s2766695959194262286x5), none, .seq ⟨[(.str z23 935), (.str z194 936), (.str z195 937)]⟩ 0, ⟨[]⟩⟩
noncomputable def o431 : Obj := ⟨(.type PySem.W.SL.s2766695959194262286x5), none, .seq ⟨[]⟩ 0, ⟨[]⟩⟩
noncomputable def o432 : Obj := ⟨.none, none, .func (fd (me 108 0) z20 z196 0 0 .none .none), ⟨[]⟩⟩
noncomputable def o433 : Obj := ⟨(.type PySem.W.SL.s5856160107412720595x4), none, .fields ⟨[(.str z20 932), (.str z196 933), (.str z1 934), (.int (.ofNat 285) 0), (.int (.ofNat 3) 0), (.int (.ofNat 0) 0), (.int (.ofNat 0) 0), (.int (.ofNat 3) 0), (.ref 428), (.bool true), (.int (.ofNat 181) 0), (.ref 429), .none, (.ref 430), (.ref 431), (.ref 432), (.int (.ofNat 938) 0), (.int (.ofNat 285) 0), (.str z1 939)]⟩, ⟨[]⟩⟩
noncomputable def o434 : Obj := ⟨(.type PySem.W.SL.s7174869446012820540x8), none, .func (fd (me 108 0) z20 z196 3 0 (.str z162 851) (.ref 433)), ⟨[]⟩⟩
noncomputable def o435 : Obj := ⟨(.type PySem.W.SL.s2766695959194262286x5), none, .seq ⟨[]⟩ 0, ⟨[]⟩⟩
noncomputable def o436 : Obj := ⟨.none, none, .fields ⟨[]⟩, ⟨[]⟩⟩
noncomputable def o437 : Obj := ⟨(.type PySem.W.SL.s2766695959194262286x5), none, .seq ⟨[(.str z23 944), (.str z177 945)]⟩ 0, ⟨[]⟩⟩
noncomputable def o438 : Obj := ⟨(.type PySem.W.SL.s2766695959194262286x5), none, .seq ⟨[]⟩ 0, ⟨[]⟩⟩
noncomputable def o439 : Obj := ⟨.none, none, .func (fd (me 108 1) z189 z197 0 0 .none .none), ⟨[]⟩⟩
noncomputable def o440 : Obj := ⟨(.type PySem.W.SL.s5856160107412720595x4), none, .fields ⟨[(.str z189 941), (.str z197 942), (.str z1 943), (.int (.ofNat 297) 0), (.int (.ofNat 2) 0), (.int (.ofNat 0) 0), (.int (.ofNat 0) 0), (.int (.ofNat 3) 0), (.ref 435), (.bool true), (.int (.ofNat 181) 0), (.ref 436), .none, (.ref 437), (.ref 438), (.ref 439), (.int (.ofNat 946) 0), (.int (.ofNat 297) 0), (.str z1 947)]⟩, ⟨[]⟩⟩
noncomputable def o441 : Obj := ⟨(.type PySem.W.SL.s7174869446012820540x8), none, .func (fd (me 108 1) z189 z197 3 0 (.str z162 851) (.ref 440)), ⟨[]⟩⟩
noncomputable def o442 : Obj := ⟨(.type PySem.W.SL.s2766695959194262286x5), none, .seq ⟨[]⟩ 0, ⟨[]⟩⟩
noncomputable def o443 : Obj := ⟨.none, none, .fields ⟨[]⟩, ⟨[]⟩⟩
noncomputable def o444 : Obj := ⟨(.type PySem.W.SL.s2766695959194262286x5), none, .seq ⟨[(.str z23 952), (.str z198 953)]⟩ 0, ⟨[]⟩⟩
noncomputable def o445 : Obj := ⟨(.type PySem.W.SL.s2766695959194262286x5), none, .seq ⟨[]⟩ 0, ⟨[]⟩⟩
noncomputable def o446 : Obj := ⟨.none, none, .func (fd (me 108 2) z190 z199 0 0 .none .none), ⟨[]⟩⟩
noncomputable def o447 : Obj := ⟨(.type PySem.W.SL.s5856160107412720595x4), none, .fields ⟨[(.str z190 949), (.str z199 950), (.str z1 951), (.int (.ofNat 300) 0), (.int (.ofNat 2) 0), (.int (.ofNat 0) 0), (.int (.ofNat 0) 0), (.int (.ofNat 3) 0), (.ref 442), (.bool true), (.int (.ofNat 181) 0), (.ref 443), .none, (.ref 444), (.ref 445), (.ref 446), (.int (.ofNat 954) 0), (.int (.ofNat 300) 0), (.str z1 955)]⟩, ⟨[]⟩⟩
noncomputable def o448 : Obj := ⟨(.type PySem.W.SL.s7174869446012820540x8), none, .func (fd (me 108 2) z190 z199 3 0 (.str z162 851) (.ref 447)), ⟨[]⟩⟩
noncomputable def o449 : Obj := ⟨(.type PySem.W.SL.s2766695959194262286x5), none, .seq ⟨[]⟩ 0, ⟨[]⟩⟩
noncomputable def o450 : Obj := ⟨.none, none, .fields ⟨[]⟩, ⟨[]⟩⟩
noncomputable def o451 : Obj := ⟨(.type PySem.W.SL.s2766695959194262286x5), none, .seq ⟨[(.str z23 960), (.str z198 961)]⟩ 0, ⟨[]⟩⟩
noncomputable def o452 : Obj := ⟨(.type PySem.W.SL.s2766695959194262286x5), none, .seq ⟨[]⟩ 0, ⟨[]⟩⟩
noncomputable def o453 : Obj := ⟨.none, none, .func (fd (me 108 3) z68 z200 0 0 .none .none), ⟨[]⟩⟩
noncomputable def o454 : Obj := ⟨(.type PySem.W.SL.s5856160107412720595x4), none, .fields ⟨[(.str z68 957), (.str z200 958), (.str z1 959), (.int (.ofNat 303) 0), (.int (.ofNat 2) 0), (.int (.ofNat 0) 0), (.int (.ofNat 0) 0), (.int (.ofNat 3) 0), (.ref 449), (.bool true), (.int (.ofNat 181) 0), (.ref 450), .none, (.ref 451), (.ref 452), (.ref 453), (.int (.ofNat 962) 0), (.int (.ofNat 303) 0), (.str z1 963)]⟩, ⟨[]⟩⟩
noncomputable def o455 : Obj := ⟨(.type PySem.W.SL.s7174869446012820540x8), none, .func (fd (me 108 3) z68 z200 3 0 (.str z162 851) (.ref 454)), ⟨[]⟩⟩
noncomputable def o456 : Obj := ⟨(.type PySem.W.SL.s2766695959194262286x5), none, .seq ⟨[]⟩ 0, ⟨[]⟩⟩
noncomputable def o457 : Obj := ⟨.none, none, .fields ⟨[]⟩, ⟨[]⟩⟩
noncomputable def o458 : Obj := ⟨(.type PySem.W.SL.s2766695959194262286x5), none, .seq ⟨[(.str z23 968)]⟩ 0, ⟨[]⟩⟩
noncomputable def o459 : Obj := ⟨(.type PySem.W.SL.s2766695959194262286x5), none, .seq ⟨[]⟩ 0, ⟨[]⟩⟩
noncomputable def o460 : Obj := ⟨.none, none, .func (fd (me 108 4) z191 z201 0 0 .none .none), ⟨[]⟩⟩
noncomputable def o461 : Obj := ⟨(.type PySem.W.SL.s5856160107412720595x4), none, .fields ⟨[(.str z191 965), (.str z201 966), (.str z1 967), (.int (.ofNat 306) 0), (.int (.ofNat 1) 0), (.int (.ofNat 0) 0), (.int (.ofNat 0) 0), (.int (.ofNat 3) 0), (.ref 456), (.bool true), (.int (.ofNat 181) 0), (.ref 457), .none, (.ref 458), (.ref 459), (.ref 460), (.int (.ofNat 969) 0), (.int (.ofNat 306) 0), (.str z1 970)]⟩, ⟨[]⟩⟩
noncomputable def o462 : Obj := ⟨(.type PySem.W.SL.s7174869446012820540x8), none, .func (fd (me 108 4) z191 z201 3 0 (.str z162 851) (.ref 461)), ⟨[]⟩⟩
noncomputable def o463 : Obj := ⟨(.type PySem.W.SL.s2766695959194262286x5), none, .seq ⟨[]⟩ 0, ⟨[]⟩⟩
noncomputable def o464 : Obj := ⟨.none, none, .fields ⟨[]⟩, ⟨[]⟩⟩
noncomputable def o465 : Obj := ⟨(.type PySem.W.SL.s2766695959194262286x5), none, .seq ⟨[(.str z23 975), (.str z202 976)]⟩ 0, ⟨[]⟩⟩
noncomputable def o466 : Obj := ⟨(.type PySem.W.SL.s2766695959194262286x5), none, .seq ⟨[]⟩ 0, ⟨[]⟩⟩
noncomputable def o467 : Obj := ⟨.none, none, .func (fd (me 108 5) z192 z203 0 0 .none .none), ⟨[]⟩⟩
noncomputable def o468 : Obj := ⟨(.type PySem.W.SL.s5856160107412720595x4), none, .fields ⟨[(.str z192 972), (.str z203 973), (.str z1 974), (.int (.ofNat 309) 0), (.int (.ofNat 2) 0), (.int (.ofNat 0) 0), (.int (.ofNat 0) 0), (.int (.ofNat 3) 0), (.ref 463), (.bool true), (.int (.ofNat 181) 0), (.ref 464), .none, (.ref 465), (.ref 466), (.ref 467), (.int (.ofNat 977) 0), (.int (.ofNat 309) 0), (.str z1 978)]⟩, ⟨[]⟩⟩
noncomputable def o469 : Obj := ⟨(.type PySem.W.SL.s7174869446012820540x8), none, .func (fd (me 108 5) z192 z203 3 0 (.str z162 851) (.ref 468)), ⟨[]⟩⟩
noncomputable def o470 : Obj := ⟨(.type PySem.W.SL.s2766695959194262286x5), none, .seq ⟨[]⟩ 0, ⟨[]⟩⟩
noncomputable def o471 : Obj := ⟨.none, none, .fields ⟨[]⟩, ⟨[]⟩⟩
noncomputable def o472 : Obj := ⟨(.type PySem.W.SL.s2766695959194262286x5), none, .seq ⟨[(.str z23 983), (.str z177 984)]⟩ 0, ⟨[]⟩⟩
noncomputable def o473 : Obj := ⟨(.type PySem.W.SL.s2766695959194262286x5), none, .seq ⟨[]⟩ 0, ⟨[]⟩⟩
noncomputable def o474 : Obj := ⟨.none, none, .func (fd (me 108 6) z193 z204 0 0 .none .none), ⟨[]⟩⟩
noncomputable def o475 : Obj := ⟨(.type PySem.W.SL.s5856160107412720595x4), none, .fields ⟨[(.str z193 980), (.str z204 981), (.str z1 982), (.int (.ofNat 312) 0), (.int (.ofNat 2) 0), (.int (.ofNat 0) 0), (.int (.ofNat 0) 0), (.int (.ofNat 3) 0), (.ref 470), (.bool true), (.int (.ofNat 181) 0), (.ref 471), .none, (.ref 472), (.ref 473), (.ref 474), (.int (.ofNat 985) 0), (.int (.ofNat 312) 0), (.str z1 986)]⟩, ⟨[]⟩⟩
noncomputable def o476 : Obj := ⟨(.type PySem.W.SL.s7174869446012820540x8), none, .func (fd (me 108 6) z193 z204 3 0 (.str z162 851) (.ref 475)), ⟨[]⟩⟩
noncomputable def o477 : Obj := ⟨(.type PySem.W.SL.s2766695959194262286x5), none, .seq ⟨[(.str z205 988), (.str z195 989), (.str z101 990), (.str z206 991), (.str z174 992), (.str z207 993), (.str z208 994), (.str z163 995), (.str z209 996), (.str z194 997)]⟩ 0, ⟨[]⟩⟩
noncomputable def o478l (P : Params) : List DictEntry := [ke P z19 931 (.int (.ofNat 283) 930), ke P z20 940 (.ref 434), ke P z189 948 (.ref 441), ke P z190 956 (.ref 448), ke P z68 964 (.ref 455), ke P z191 971 (.ref 462), ke P z192 979 (.ref 469), ke P z193 987 (.ref 476), ke P z21 998 (.ref 477), ke P z84 1000 (.ref 480), ke P z27 1002 (.ref 481), ke P z5 1003 .none]
noncomputable def o478 (P : Params) : Obj := ⟨(.type PySem.W.SL.s14018661285674007319x4), none, .dict ⟨(ke P z22 927 (.str z162 851)) :: o478l P⟩ 4, ⟨[]⟩⟩
noncomputable def o479 : Obj := ⟨(.type PySem.W.SL.s17162191345867700912x4), none, .cls (cd z188 [(.type PySem.W.SL.s2742458400755230247x6)] [(.ref 479), (.type PySem.W.SL.s2742458400755230247x6)] 478 z188 true [] false), ⟨[none, none, some (.str z188 920), some (.str z188 928), some (.builtin PySem.W.SL.s11443829558043349243x14), some (.bool true)]⟩⟩
noncomputable def o480 : Obj := ⟨(.type PySem.W.SL.s14755015743595814543x17), none, .fields ⟨[(.str z84 999), (.ref 479), (.builtin PySem.W.SL.s6511155373996960695x17), (.builtin PySem.W.SL.s12411053484034534018x21)]⟩, ⟨[]⟩⟩
noncomputable def o481 : Obj := ⟨(.type PySem.W.SL.s14755015743595814543x17), none, .fields ⟨[(.str z27 1001), (.ref 479), (.builtin PySem.W.SL.s10220274742760427390x26), .none]⟩, ⟨[]⟩⟩
noncomputable def o482 : Obj := ⟨(.type PySem.W.SL.s4290257624100764138x5), none, .fields ⟨[(.ref 479), (.ref 479), (.ref 479)]⟩, ⟨[]⟩⟩
noncomputable def o483 : Obj := ⟨(.type PySem.W.SL.s11030030927630378310x26), none, .fields ⟨[(.builtin PySem.W.SL.s4860613602091757760x24), (.ref 479)]⟩, ⟨[]⟩⟩
noncomputable def T15 (P : Params) : BT := setAll (insAll (T14 P) 421 [o421, o422, (o423 P), o424, o425, o426, o427, o428, o429, o430, o431, o432, o433, o434, o435, o436, o437, o438, o439, o440, o441, o442, o443, o444, o445, o446, o447, o448, o449, o450, o451, o452, o453, o454, o455, o456, o457, o458, o459, o460, o461, o462, o463, o464, o465, o466, o467, o468, o469, o470, o471, o472, o473, o474, o475, o476, o477, (o478 P), o479, o480, o481, o482, o483]) [(3, (o3v15 P)), (12, o12v15)]
noncomputable def o3v16l (P : Params) : List DictEntry := o3v15l P ++ [ke P z210 1014 (.ref 490), ke P z211 1020 (.ref 495), ke P z212 1028 (.ref 502), ke P z213 1038 (.ref 509), ke P z214 1046 (.ref 516), ke P z215 1053 (.ref 523)]
noncomputable def o3v16 (P : Params) : Obj := ⟨(.type PySem.W.SL.s14018661285674007319x4), none, .dict ⟨(ke P z15 165 (.str z216 1029)) :: o3v16l P⟩ 119, ⟨[]⟩⟩
noncomputable def o12v16f : List Value := o12v15f ++ [(.int (.ofNat 314) 0), (.int (.ofNat 0) 0), (.ref 489), (.int (.ofNat 319) 0), (.int (.ofNat 0) 0), (.ref 494), (.int (.ofNat 324) 0), (.int (.ofNat 0) 0), (.ref 501), (.int (.ofNat 327) 0), (.int (.ofNat 0) 0), (.ref 508), (.int (.ofNat 331) 0), (.int (.ofNat 0) 0), (.ref 515), (.int (.ofNat 335) 0), (.int (.ofNat 0) 0), (.ref 522)]
noncomputable def o12v16 : Obj := ⟨.none, none, .fields ⟨o12v16f⟩, ⟨[]⟩⟩
noncomputable def o484 : Obj := ⟨(.type PySem.W.SL.s2766695959194262286x5), none, .seq ⟨[]⟩ 0, ⟨[]⟩⟩
noncomputable def o485 : Obj := ⟨.none, none, .fields ⟨[]⟩, ⟨[]⟩⟩
noncomputable def o486 : Obj := ⟨(.type PySem.W.SL.s2766695959194262286x5), none, .seq ⟨[(.str z181 1009), (.str z177 1010), (.str z217 1011)]⟩ 0, ⟨[]⟩⟩
noncomputable def o487 : Obj := ⟨(.type PySem.W.SL.s2766695959194262286x5), none, .seq ⟨[]⟩ 0, ⟨[]⟩⟩
noncomputable def o488 : Obj := ⟨.none, none, .func (fd (st 109) z210 z210 0 0 .none .none), ⟨[]⟩⟩
noncomputable def o489 : Obj := ⟨(.type PySem.W.SL.s5856160107412720595x4), none, .fields ⟨[(.str z210 1006), (.str z210 1007), (.str z1 1008), (.int (.ofNat 314) 0), (.int (.ofNat 2) 0), (.int (.ofNat 0) 0), (.int (.ofNat 0) 0), (.int (.ofNat 3) 0), (.ref 484), (.bool true), (.int (.ofNat 181) 0), (.ref 485), .none, (.ref 486), (.ref 487), (.ref 488), (.int (.ofNat 1012) 0), (.int (.ofNat 314) 0), (.str z1 1013)]⟩, ⟨[]⟩⟩
noncomputable def o490 : Obj := ⟨(.type PySem.W.SL.s7174869446012820540x8), none, .func (fd (st 109) z210 z210 3 0 (.str z162 851) (.ref 489)), ⟨[]⟩⟩
noncomputable def o491 : Obj := ⟨(.type PySem.W.SL.s2766695959194262286x5), none, .seq ⟨[]⟩ 0, ⟨[]⟩⟩
noncomputable def o492 : Obj := ⟨.none, none, .fields ⟨[]⟩, ⟨[]⟩⟩
noncomputable def o493 : Obj := ⟨.none, none, .func (fd (st 110) z211 z211 0 0 .none .none), ⟨[]⟩⟩
noncomputable def o494 : Obj := ⟨(.type PySem.W.SL.s5856160107412720595x4), none, .fields ⟨[(.str z211 1015), (.str z211 1016), (.str z1 1017), (.int (.ofNat 319) 0), (.int (.ofNat 2) 0), (.int (.ofNat 0) 0), (.int (.ofNat 0) 0), (.int (.ofNat 3) 0), (.ref 491), (.bool true), (.int (.ofNat 181) 0), (.ref 492), .none, .none, .none, (.ref 493), (.int (.ofNat 1018) 0), (.int (.ofNat 319) 0), (.str z1 1019)]⟩, ⟨[]⟩⟩
noncomputable def o495 : Obj := ⟨(.type PySem.W.SL.s7174869446012820540x8), none, .func (fd (st 110) z211 z211 3 0 (.str z162 851) (.ref 494)), ⟨[]⟩⟩
noncomputable def o496 : Obj := ⟨(.type PySem.W.SL.s2766695959194262286x5), none, .seq ⟨[]⟩ 0, ⟨[]⟩⟩
noncomputable def o497 : Obj := ⟨.none, none, .fields ⟨[]⟩, ⟨[]⟩⟩
noncomputable def o498 : Obj := ⟨(.type PySem.W.SL.s2766695959194262286x5), none, .seq ⟨[(.str z101 1024), (.str z17 1025)]⟩ 0, ⟨[]⟩⟩
noncomputable def o499 : Obj := ⟨(.type PySem.W.SL.s2766695959194262286x5), none, .seq ⟨[]⟩ 0, ⟨[]⟩⟩
noncomputable def o500 : Obj := ⟨.none, none, .func (fd (st 111) z212 z212 0 0 .none .none), ⟨[]⟩⟩
noncomputable def o501 : Obj := ⟨(.type PySem.W.SL.s5856160107412720595x4), none, .fields ⟨[(.str z212 1021), (.str z212 1022), (.str z1 1023), (.int (.ofNat 324) 0), (.int (.ofNat 2) 0), (.int (.ofNat 0) 0), (.int (.ofNat 0) 0), (.int (.ofNat 3) 0), (.ref 496), (.bool true), (.int (.ofNat 181) 0), (.ref 497), .none, (.ref 498), (.ref 499), (.ref 500), (.int (.ofNat 1026) 0), (.int (.ofNat 324) 0), (.str z1 1027)]⟩, ⟨[]⟩⟩
noncomputable def o502 : Obj := ⟨(.type PySem.W.SL.s7174869446012820540x8), none, .func (fd (st 111) z212 z212 3 0 (.str z162 851) (.ref 501)), ⟨[]⟩⟩
noncomputable def o503 : Obj := ⟨(.type PySem.W.SL.s2766695959194262286x5), none, .seq ⟨[]⟩ 0, ⟨[]⟩⟩
noncomputable def o504 : Obj := ⟨.none, none, .fields ⟨[]⟩, ⟨[]⟩⟩
noncomputable def o505 : Obj := ⟨(.type PySem.W.SL.s2766695959194262286x5), none, .seq ⟨[(.str z181 1034), (.str z177 1035)]⟩ 0, ⟨[]⟩⟩
noncomputable def o506 : Obj := ⟨(.type PySem.W.SL.s2766695959194262286x5), none, .seq ⟨[]⟩ 0, ⟨[]⟩⟩
noncomputable def o507 : Obj := ⟨.none, none, .func (fd (st 113) z213 z213 0 0 .none .none), ⟨[]⟩⟩
noncomputable def o508 : Obj := ⟨(.type PySem.W.SL.s5856160107412720595x4), none, .fields ⟨[(.str z213 1031), (.str z213 1032), (.str z1 1033), (.int (.ofNat 327) 0), (.int (.ofNat 2) 0), (.int (.ofNat 0) 0), (.int (.ofNat 0) 0), (.int (.ofNat 3) 0), (.ref 503), (.bool true), (.int (.ofNat 181) 0), (.ref 504), .none, (.ref 505), (.ref 506), (.ref 507), (.int (.ofNat 1036) 0), (.int (.ofNat 327) 0), (.str z1 1037)]⟩, ⟨[]⟩⟩
noncomputable def o509 : Obj := ⟨(.type PySem.W.SL.s7174869446012820540x8), none, .func (fd (st 113) z213 z213 3 0 (.str z216 1029) (.ref 508)), ⟨[]⟩⟩
noncomputable def o510 : Obj := ⟨(.type PySem.W.SL.s2766695959194262286x5), none, .seq ⟨[]⟩ 0, ⟨[]⟩⟩
noncomputable def o511 : Obj := ⟨.none, none, .fields ⟨[]⟩, ⟨[]⟩⟩
noncomputable def o512 : Obj := ⟨(.type PySem.W.SL.s2766695959194262286x5), none, .seq ⟨[(.str z218 1042), (.str z219 1043)]⟩ 0, ⟨[]⟩⟩
noncomputable def o513 : Obj := ⟨(.type PySem.W.SL.s2766695959194262286x5), none, .seq ⟨[]⟩ 0, ⟨[]⟩⟩
noncomputable def o514 : Obj := ⟨.none, none, .func (fd (st 114) z214 z214 0 0 .none .none), ⟨[]⟩⟩
noncomputable def o515 : Obj := ⟨(.type PySem.W.SL.s5856160107412720595x4), none, .fields ⟨[(.str z214 1039), (.str z214 1040), (.str z1 1041), (.int (.ofNat 331) 0), (.int (.ofNat 2) 0), (.int (.ofNat 0) 0), (.int (.ofNat 0) 0), (.int (.ofNat 3) 0), (.ref 510), (.bool true), (.int (.ofNat 181) 0), (.ref 511), .none, (.ref 512), (.ref 513), (.ref 514), (.int (.ofNat 1044) 0), (.int (.ofNat 331) 0), (.str z1 1045)]⟩, ⟨[]⟩⟩
noncomputable def o516 : Obj := ⟨(.type PySem.W.SL.s7174869446012820540x8), none, .func (fd (st 114) z214 z214 3 0 (.str z216 1029) (.ref 515)), ⟨[]⟩⟩
noncomputable def o517 : Obj := ⟨(.type PySem.W.SL.s2766695959194262286x5), none, .seq ⟨[]⟩ 0, ⟨[]⟩⟩
noncomputable def o518 : Obj := ⟨.none, none, .fields ⟨[]⟩, ⟨[]⟩⟩
noncomputable def o519 : Obj := ⟨(.type PySem.W.SL.s2766695959194262286x5), none, .seq ⟨[(.str z177 1050)]⟩ 0, ⟨[]⟩⟩
noncomputable def o520 : Obj := ⟨(.type PySem.W.SL.s2766695959194262286x5), none, .seq ⟨[]⟩ 0, ⟨[]⟩⟩
noncomputable def o521 : Obj := ⟨.none, none, .func (fd (st 115) z215 z215 0 0 .none .none), ⟨[]⟩⟩
noncomputable def o522 : Obj := ⟨(.type PySem.W.SL.s5856160107412720595x4), none, .fields ⟨[(.str z215 1047), (.str z215 1048), (.str z1 1049), (.int (.ofNat 335) 0), (.int (.ofNat 1) 0), (.int (.ofNat 0) 0), (.int (.ofNat 0) 0), (.int (.ofNat 3) 0), (.ref 517), (.bool true), (.int (.ofNat 181) 0), (.ref 518), .none, (.ref 519), (.ref 520), (.ref 521), (.int (.ofNat 1051) 0), (.int (.ofNat 335) 0), (.str z1 1052)]⟩, ⟨[]⟩⟩
noncomputable def o523 : Obj := ⟨(.type PySem.W.SL.s7174869446012820540x8), none, .func (fd (st 115) z215 z215 3 0 (.str z216 1029) (.ref 522)), ⟨[]⟩⟩
noncomputable def T16 (P : Params) : BT := setAll (insAll (T15 P) 484 [o484, o485, o486, o487, o488, o489, o490, o491, o492, o493, o494, o495, o496, o497, o498, o499, o500, o501, o502, o503, o504, o505, o506, o507, o508, o509, o510, o511, o512, o513, o514, o515, o516, o517, o518, o519, o520, o521, o522, o523]) [(3, (o3v16 P)), (12, o12v16)]
noncomputable def o3v17l (P : Params) : List DictEntry := o3v16l P ++ [ke P z220 1075 (.ref 538)]
noncomputable def o3v17 (P : Params) : Obj := ⟨(.type PySem.W.SL.s14018661285674007319x4), none, .dict ⟨(ke P z15 165 (.str z216 1029)) :: o3v17l P⟩ 120, ⟨[]⟩⟩
noncomputable def o12v17f : List Value := o12v16f ++ [(.int (.ofNat 339) 0), (.int (.ofNat 0) 0), (.ref 529)]
noncomputable def o12v17 : Obj := ⟨.none, none, .fields ⟨o12v17f⟩, ⟨[]⟩⟩
noncomputable def o388v17 : Obj := ⟨(.type PySem.W.SL.s17162191345867700912x4), none, .cls (cd z179 [(.type PySem.W.SL.s2742458400755230247x6)] [(.ref 388), (.type PySem.W.SL.s2742458400755230247x6)] 387 z179 true [(.ref 538)] false), ⟨[none, none, some (.str z179 853), some (.str z179 861), some (.builtin PySem.W.SL.s11443829558043349243x14), some (.bool true)]⟩⟩
noncomputable def o524 : Obj := ⟨(.type PySem.W.SL.s2766695959194262286x5), none, .seq ⟨[(.ref 388)]⟩ 0, ⟨[]⟩⟩
noncomputable def o525 : Obj := ⟨(.type PySem.W.SL.s11030030927630378310x26), none, .fields ⟨[(.builtin PySem.W.SL.s10062305145149207511x16), (.type PySem.W.SL.s17162191345867700912x4)]⟩, ⟨[]⟩⟩
noncomputable def o526l (P : Params) : List DictEntry := [ke P z18 1063 (.str z220 1062), ke P z19 1065 (.int (.ofNat 339) 1064), ke P z180 1071 (.ref 535), ke P z21 1072 (.ref 536)]
noncomputable def o526 (P : Params) : Obj := ⟨(.type PySem.W.SL.s14018661285674007319x4), none, .dict ⟨(ke P z22 1061 (.str z216 1029)) :: o526l P⟩ 5, ⟨[]⟩⟩
noncomputable def o527 : Obj := ⟨(.type PySem.W.SL.s2766695959194262286x5), none, .seq ⟨[]⟩ 0, ⟨[]⟩⟩
noncomputable def o528 : Obj := ⟨.none, none, .fields ⟨[(.int (.ofNat 341) 0), (.int (.ofNat 4) 0), (.ref 534)]⟩, ⟨[]⟩⟩
noncomputable def o529 : Obj := ⟨(.type PySem.W.SL.s5856160107412720595x4), none, .fields ⟨[(.str z220 1056), (.str z220 1057), (.str z1 1058), (.int (.ofNat 339) 0), (.int (.ofNat 0) 0), (.int (.ofNat 0) 0), (.int (.ofNat 0) 0), (.int (.ofNat 0) 0), (.ref 527), (.bool false), (.int (.ofNat 181) 0), (.ref 528), .none, .none, .none, .none, (.int (.ofNat 1059) 0), (.int (.ofNat 339) 0), (.str z1 1060)]⟩, ⟨[]⟩⟩
noncomputable def o530 : Obj := ⟨(.type PySem.W.SL.s658472552662922059x5), none, .plain, ⟨[some (.ref 529), some (.ref 3), some (.ref 526), none, some (.str z216 1029), none, some (.ref 0)]⟩⟩
noncomputable def o531 : Obj := ⟨(.type PySem.W.SL.s2766695959194262286x5), none, .seq ⟨[]⟩ 0, ⟨[]⟩⟩
noncomputable def o532 : Obj := ⟨.none, none, .fields ⟨[]⟩, ⟨[]⟩⟩
noncomputable def o533 : Obj := ⟨.none, none, .func (fd (me 116 0) z180 z221 0 0 .none .none), ⟨[]⟩⟩
noncomputable def o534 : Obj := ⟨(.type PySem.W.SL.s5856160107412720595x4), none, .fields ⟨[(.str z180 1066), (.str z221 1067), (.str z1 1068), (.int (.ofNat 341) 0), (.int (.ofNat 3) 0), (.int (.ofNat 0) 0), (.int (.ofNat 0) 0), (.int (.ofNat 3) 0), (.ref 531), (.bool true), (.int (.ofNat 181) 0), (.ref 532), .none, .none, .none, (.ref 533), (.int (.ofNat 1069) 0), (.int (.ofNat 341) 0), (.str z1 1070)]⟩, ⟨[]⟩⟩
noncomputable def o535 : Obj := ⟨(.type PySem.W.SL.s7174869446012820540x8), none, .func (fd (me 116 0) z180 z221 3 0 (.str z216 1029) (.ref 534)), ⟨[]⟩⟩
noncomputable def o536 : Obj := ⟨(.type PySem.W.SL.s2766695959194262286x5), none, .seq ⟨[]⟩ 0, ⟨[]⟩⟩
noncomputable def o537l (P : Params) : List DictEntry := [ke P z19 1065 (.int (.ofNat 339) 1064), ke P z180 1071 (.ref 535), ke P z21 1072 (.ref 536), ke P z5 1073 .none]
noncomputable def o537 (P : Params) : Obj := ⟨(.type PySem.W.SL.s14018661285674007319x4), none, .dict ⟨(ke P z22 1061 (.str z216 1029)) :: o537l P⟩ 2, ⟨[]⟩⟩
noncomputable def o538 : Obj := ⟨(.type PySem.W.SL.s17162191345867700912x4), none, .cls (cd z220 [(.ref 388)] [(.ref 538), (.ref 388), (.type PySem.W.SL.s2742458400755230247x6)] 537 z220 true [] false), ⟨[some (.ref 524), none, some (.str z220 1054), some (.str z220 1062), some (.builtin PySem.W.SL.s11443829558043349243x14), some (.bool true)]⟩⟩
noncomputable def o539 : Obj := ⟨(.type PySem.W.SL.s4290257624100764138x5), none, .fields ⟨[(.ref 538), (.ref 538), (.ref 538)]⟩, ⟨[]⟩⟩
noncomputable def o540 : Obj := ⟨(.type PySem.W.SL.s11030030927630378310x26), none, .fields ⟨[(.builtin PySem.W.SL.s4860613602091757760x24), (.ref 538)]⟩, ⟨[]⟩⟩
noncomputable def T17 (P : Params) : BT := setAll (insAll (T16 P) 524 [o524, o525, (o526 P), o527, o528, o529, o530, o531, o532, o533, o534, o535, o536, (o537 P), o538, o539, o540]) [(3, (o3v17 P)), (12, o12v17), (388, o388v17)]
noncomputable def o3v18l (P : Params) : List DictEntry := o3v17l P ++ [ke P z222 1101 (.ref 557)]
noncomputable def o3v18 (P : Params) : Obj := ⟨(.type PySem.W.SL.s14018661285674007319x4), none, .dict ⟨(ke P z15 165 (.str z216 1029)) :: o3v18l P⟩ 121, ⟨[]⟩⟩
noncomputable def o12v18f : List Value := o12v17f ++ [(.int (.ofNat 349) 0), (.int (.ofNat 0) 0), (.ref 546)]
noncomputable def o12v18 : Obj := ⟨.none, none, .fields ⟨o12v18f⟩, ⟨[]⟩⟩
noncomputable def o388v18 : Obj := ⟨(.type PySem.W.SL.s17162191345867700912x4), none, .cls (cd z179 [(.type PySem.W.SL.s2742458400755230247x6)] [(.ref 388), (.type PySem.W.SL.s2742458400755230247x6)] 387 z179 true [(.ref 538), (.ref 557)] false), ⟨[none, none, some (.str z179 853), some (.str z179 861), some (.builtin PySem.W.SL.s11443829558043349243x14), some (.bool true)]⟩⟩
noncomputable def o541 : Obj := ⟨(.type PySem.W.SL.s2766695959194262286x5), none, .seq ⟨[(.ref 388)]⟩ 0, ⟨[]⟩⟩
noncomputable def o542 : Obj := ⟨(.type PySem.W.SL.s11030030927630378310x26), none, .fields ⟨[(.builtin PySem.W.SL.s10062305145149207511x16), (.type PySem.W.SL.s17162191345867700912x4)]⟩, ⟨[]⟩⟩
noncomputable def o543l (P : Params) : List DictEntry := [ke P z18 1085 (.str z222 1084), ke P z19 1087 (.int (.ofNat 349) 1086), ke P z180 1097 (.ref 554), ke P z21 1098 (.ref 555)]
noncomputable def o543 (P : Params) : Obj := ⟨(.type PySem.W.SL.s14018661285674007319x4), none, .dict ⟨(ke P z22 1083 (.str z216 1029)) :: o543l P⟩ 5, ⟨[]⟩⟩
noncomputable def o544 : Obj := ⟨(.type PySem.W.SL.s2766695959194262286x5), none, .seq ⟨[]⟩ 0, ⟨[]⟩⟩
noncomputable def o545 : Obj := ⟨.none, none, .fields ⟨[(.int (.ofNat 351) 0), (.int (.ofNat 4) 0), (.ref 553)]⟩, ⟨[]⟩⟩
noncomputable def o546 : Obj := ⟨(.type PySem.W.SL.s5856160107412720595x4), none, .fields ⟨[(.str z222 1078), (.str z222 1079), (.str z1 1080), (.int (.ofNat 349) 0), (.int (.ofNat 0) 0), (.int (.ofNat 0) 0), (.int (.ofNat 0) 0), (.int (.ofNat 0) 0), (.ref 544), (.bool false), (.int (.ofNat 181) 0), (.ref 545), .none, .none, .none, .none, (.int (.ofNat 1081) 0), (.int (.ofNat 349) 0), (.str z1 1082)]⟩, ⟨[]⟩⟩
noncomputable def o547 : Obj := ⟨(.type PySem.W.SL.s658472552662922059x5), none, .plain, ⟨[some (.ref 546), some (.ref 3), some (.ref 543), none, some (.str z216 1029), none, some (.ref 0)]⟩⟩
noncomputable def o548 : Obj := ⟨(.type PySem.W.SL.s2766695959194262286x5), none, .seq ⟨[]⟩ 0, ⟨[]⟩⟩
noncomputable def o549 : Obj := ⟨.none, none, .fields ⟨[]⟩, ⟨[]⟩⟩
noncomputable def o550 : Obj := ⟨(.type PySem.W.SL.s2766695959194262286x5), none, .seq ⟨[(.str z23 1091), (.str z181 1092), (.str z177 1093), (.str z223 1094)]⟩ 0, ⟨[]⟩⟩
noncomputable def o551 : Obj := ⟨(.type PySem.W.SL.s2766695959194262286x5), none, .seq ⟨[]⟩ 0, ⟨[]⟩⟩
noncomputable def o552 : Obj := ⟨.none, none, .func (fd (me 117 0) z180 z224 0 0 .none .none), ⟨[]⟩⟩
noncomputable def o553 : Obj := ⟨(.type PySem.W.SL.s5856160107412720595x4), none, .fields ⟨[(.str z180 1088), (.str z224 1089), (.str z1 1090), (.int (.ofNat 351) 0), (.int (.ofNat 3) 0), (.int (.ofNat 0) 0), (.int (.ofNat 0) 0), (.int (.ofNat 3) 0), (.ref 548), (.bool true), (.int (.ofNat 181) 0), (.ref 549), .none, (.ref 550), (.ref 551), (.ref 552), (.int (.ofNat 1095) 0), (.int (.ofNat 351) 0), (.str z1 1096)]⟩, ⟨[]⟩⟩
noncomputable def o554 : Obj := ⟨(.type PySem.W.SL.s7174869446012820540x8), none, .func (fd (me 117 0) z180 z224 3 0 (.str z216 1029) (.ref 553)), ⟨[]⟩⟩
noncomputable def o555 : Obj := ⟨(.type PySem.W.SL.s2766695959194262286x5), none, .seq ⟨[]⟩ 0, ⟨[]⟩⟩
noncomputable def o556l (P : Params) : List DictEntry := [ke P z19 1087 (.int (.ofNat 349) 1086), ke P z180 1097 (.ref 554), ke P z21 1098 (.ref 555), ke P z5 1099 .none]
noncomputable def o556 (P : Params) : Obj := ⟨(.type PySem.W.SL.s14018661285674007319x4), none, .dict ⟨(ke P z22 1083 (.str z216 1029)) :: o556l P⟩ 2, ⟨[]⟩⟩
noncomputable def o557 : Obj := ⟨(.type PySem.W.SL.s17162191345867700912x4), none, .cls (cd z222 [(.ref 388)] [(.ref 557), (.ref 388), (.type PySem.W.SL.s2742458400755230247x6)] 556 z222 true [] false), ⟨[some (.ref 541), none, some (.str z222 1076), some (.str z222 1084), some (.builtin PySem.W.SL.s11443829558043349243x14), some (.bool true)]⟩⟩
noncomputable def o558 : Obj := ⟨(.type PySem.W.SL.s4290257624100764138x5), none, .fields ⟨[(.ref 557), (.ref 557), (.ref 557)]⟩, ⟨[]⟩⟩
noncomputable def o559 : Obj := ⟨(.type PySem.W.SL.s11030030927630378310x26), none, .fields ⟨[(.builtin PySem.W.SL.s4860613602091757760x24), (.ref 557)]⟩, ⟨[]⟩⟩
noncomputable def T18 (P : Params) : BT := setAll (insAll (T17 P) 541 [o541, o542, (o543 P), o544, o545, o546, o547, o548, o549, o550, o551, o552, o553, o554, o555, (o556 P), o557, o558, o559]) [(3, (o3v18 P)), (12, o12v18), (388, o388v18)]
noncomputable def o3v19l (P : Params) : List DictEntry := o3v18l P ++ [ke P z225 1126 (.ref 576), ke P z226 1133 (.ref 585), ke P z227 1137 (.int (.ofNat 220) 1136), ke P z228 1139 (.int (.ofNat 221) 1138), ke P z229 1141 (.int (.ofNat 20) 1140), ke P z230 1148 (.ref 586), ke P z116 1158 (.ref 593), ke P z231 1168 (.ref 600)]
noncomputable def o3v19 (P : Params) : Obj := ⟨(.type PySem.W.SL.s14018661285674007319x4), none, .dict ⟨(ke P z15 165 (.str z232 1134)) :: o3v19l P⟩ 129, ⟨[]⟩⟩
noncomputable def o12v19f : List Value := o12v18f ++ [(.int (.ofNat 356) 0), (.int (.ofNat 0) 0), (.ref 565), (.int (.ofNat 360) 0), (.int (.ofNat 0) 0), (.ref 584), (.int (.ofNat 369) 0), (.int (.ofNat 0) 0), (.ref 592), (.int (.ofNat 372) 0), (.int (.ofNat 0) 0), (.ref 599)]
noncomputable def o12v19 : Obj := ⟨.none, none, .fields ⟨o12v19f⟩, ⟨[]⟩⟩
noncomputable def o388v19 : Obj := ⟨(.type PySem.W.SL.s17162191345867700912x4), none, .cls (cd z179 [(.type PySem.W.SL.s2742458400755230247x6)] [(.ref 388), (.type PySem.W.SL.s2742458400755230247x6)] 387 z179 true [(.ref 538), (.ref 557), (.ref 576)] false), ⟨[none, none, some (.str z179 853), some (.str z179 861), some (.builtin PySem.W.SL.s11443829558043349243x14), some (.bool true)]⟩⟩
noncomputable def o560 : Obj := ⟨(.type PySem.W.SL.s2766695959194262286x5), none, .seq ⟨[(.ref 388)]⟩ 0, ⟨[]⟩⟩
noncomputable def o561 : Obj := ⟨(.type PySem.W.SL.s11030030927630378310x26), none, .fields ⟨[(.builtin PySem.W.SL.s10062305145149207511x16), (.type PySem.W.SL.s17162191345867700912x4)]⟩, ⟨[]⟩⟩
noncomputable def o562l (P : Params) : List DictEntry := [ke P z18 1111 (.str z225 1110), ke P z19 1113 (.int (.ofNat 356) 1112), ke P z180 1122 (.ref 573), ke P z21 1123 (.ref 574)]
noncomputable def o562 (P : Params) : Obj := ⟨(.type PySem.W.SL.s14018661285674007319x4), none, .dict ⟨(ke P z22 1109 (.str z216 1029)) :: o562l P⟩ 5, ⟨[]⟩⟩
noncomputable def o563 : Obj := ⟨(.type PySem.W.SL.s2766695959194262286x5), none, .seq ⟨[]⟩ 0, ⟨[]⟩⟩
noncomputable def o564 : Obj := ⟨.none, none, .fields ⟨[(.int (.ofNat 358) 0), (.int (.ofNat 4) 0), (.ref 572)]⟩, ⟨[]⟩⟩
noncomputable def o565 : Obj := ⟨(.type PySem.W.SL.s5856160107412720595x4), none, .fields ⟨[(.str z225 1104), (.str z225 1105), (.str z1 1106), (.int (.ofNat 356) 0), (.int (.ofNat 0) 0), (.int (.ofNat 0) 0), (.int (.ofNat 0) 0), (.int (.ofNat 0) 0), (.ref 563), (.bool false), (.int (.ofNat 181) 0), (.ref 564), .none, .none, .none, .none, (.int (.ofNat 1107) 0), (.int (.ofNat 356) 0), (.str z1 1108)]⟩, ⟨[]⟩⟩
noncomputable def o566 : Obj := ⟨(.type PySem.W.SL.s658472552662922059x5), none, .plain, ⟨[some (.ref 565), some (.ref 3), some (.ref 562), none, some (.str z216 1029), none, some (.ref 0)]⟩⟩
noncomputable def o567 : Obj := ⟨(.type PySem.W.SL.s2766695959194262286x5), none, .seq ⟨[]⟩ 0, ⟨[]⟩⟩
noncomputable def o568 : Obj := ⟨.none, none, .fields ⟨[]⟩, ⟨[]⟩⟩
noncomputable def o569 : Obj := ⟨(.type PySem.W.SL.s2766695959194262286x5), none, .seq ⟨[(.str z23 1117), (.str z181 1118), (.str z177 1119)]⟩ 0, ⟨[]⟩⟩
noncomputable def o570 : Obj := ⟨(.type PySem.W.SL.s2766695959194262286x5), none, .seq ⟨[]⟩ 0, ⟨[]⟩⟩
noncomputable def o571 : Obj := ⟨.none, none, .func (fd (me 118 0) z180 z233 0 0 .none .none), ⟨[]⟩⟩
noncomputable def o572 : Obj := ⟨(.type PySem.W.SL.s5856160107412720595x4), none, .fields ⟨[(.str z180 1114), (.str z233 1115), (.str z1 1116), (.int (.ofNat 358) 0), (.int (.ofNat 3) 0), (.int (.ofNat 0) 0), (.int (.ofNat 0) 0), (.int (.ofNat 3) 0), (.ref 567), (.bool true), (.int (.ofNat 181) 0), (.ref 568), .none, (.ref 569), (.ref 570), (.ref 571), (.int (.ofNat 1120) 0), (.int (.ofNat 358) 0), (.str z1 1121)]⟩, ⟨[]⟩⟩
noncomputable def o573 : Obj := ⟨(.type PySem.W.SL.s7174869446012820540x8), none, .func (fd (me 118 0) z180 z233 3 0 (.str z216 1029) (.ref 572)), ⟨[]⟩⟩
noncomputable def o574 : Obj := ⟨(.type PySem.W.SL.s2766695959194262286x5), none, .seq ⟨[]⟩ 0, ⟨[]⟩⟩
noncomputable def o575l (P : Params) : List DictEntry := [ke P z19 1113 (.int (.ofNat 356) 1112), ke P z180 1122 (.ref 573), ke P z21 1123 (.ref 574), ke P z5 1124 .none]
noncomputable def o575 (P : Params) : Obj := ⟨(.type PySem.W.SL.s14018661285674007319x4), none, .dict ⟨(ke P z22 1109 (.str z216 1029)) :: o575l P⟩ 2, ⟨[]⟩⟩
noncomputable def o576 : Obj := ⟨(.type PySem.W.SL.s17162191345867700912x4), none, .cls (cd z225 [(.ref 388)] [(.ref 576), (.ref 388), (.type PySem.W.SL.s2742458400755230247x6)] 575 z225 true [] false), ⟨[some (.ref 560), none, some (.str z225 1102), some (.str z225 1110), some (.builtin PySem.W.SL.s11443829558043349243x14), some (.bool true)]⟩⟩
noncomputable def o577 : Obj := ⟨(.type PySem.W.SL.s4290257624100764138x5), none, .fields ⟨[(.ref 576), (.ref 576), (.ref 576)]⟩, ⟨[]⟩⟩
noncomputable def o578 : Obj := ⟨(.type PySem.W.SL.s11030030927630378310x26), none, .fields ⟨[(.builtin PySem.W.SL.s4860613602091757760x24), (.ref 576)]⟩, ⟨[]⟩⟩
noncomputable def o579 : Obj := ⟨(.type PySem.W.SL.s2766695959194262286x5), none, .seq ⟨[]⟩ 0, ⟨[]⟩⟩
noncomputable def o580 : Obj := ⟨.none, none, .fields ⟨[]⟩, ⟨[]⟩⟩
noncomputable def o581 : Obj := ⟨(.type PySem.W.SL.s2766695959194262286x5), none, .seq ⟨[(.str z181 1130)]⟩ 0, ⟨[]⟩⟩
noncomputable def o582 : Obj := ⟨(.type PySem.W.SL.s2766695959194262286x5), none, .seq ⟨[]⟩ 0, ⟨[]⟩⟩
noncomputable def o583 : Obj := ⟨.none, none, .func (fd (st 119) z226 z226 0 0 .none .none), ⟨[]⟩⟩
noncomputable def o584 : Obj := ⟨(.type PySem.W.SL.s5856160107412720595x4), none, .fields ⟨[(.str z226 1127), (.str z226 1128), (.str z1 1129), (.int (.ofNat 360) 0), (.int (.ofNat 1) 0), (.int (.ofNat 0) 0), (.int (.ofNat 0) 0), (.int (.ofNat 3) 0), (.ref 579), (.bool true), (.int (.ofNat 181) 0), (.ref 580), .none, (.ref 581), (.ref 582), (.ref 583), (.int (.ofNat 1131) 0), (.int (.ofNat 360) 0), (.str z1 1132)]⟩, ⟨[]⟩⟩
noncomputable def o585 : Obj := ⟨(.type PySem.W.SL.s7174869446012820540x8), none, .func (fd (st 119) z226 z226 3 0 (.str z216 1029) (.ref 584)), ⟨[]⟩⟩
noncomputable def o586 : Obj := ⟨(.type PySem.W.SL.s2766695959194262286x5), none, .seq ⟨[(.str z234 1142), (.str z235 1143), (.str z236 1144), (.str z237 1145), (.str z238 1146), (.str z239 1147)]⟩ 0, ⟨[]⟩⟩
noncomputable def o587 : Obj := ⟨(.type PySem.W.SL.s2766695959194262286x5), none, .seq ⟨[]⟩ 0, ⟨[]⟩⟩
noncomputable def o588 : Obj := ⟨.none, none, .fields ⟨[]⟩, ⟨[]⟩⟩
noncomputable def o589 : Obj := ⟨(.type PySem.W.SL.s2766695959194262286x5), none, .seq ⟨[(.str z17 1152), (.str z240 1153), (.str z180 1154), (.str z241 1155)]⟩ 0, ⟨[]⟩⟩
noncomputable def o590 : Obj := ⟨(.type PySem.W.SL.s2766695959194262286x5), none, .seq ⟨[]⟩ 0, ⟨[]⟩⟩
noncomputable def o591 : Obj := ⟨.none, none, .func (fd (st 125) z116 z116 0 0 .none .none), ⟨[]⟩⟩
noncomputable def o592 : Obj := ⟨(.type PySem.W.SL.s5856160107412720595x4), none, .fields ⟨[(.str z116 1149), (.str z116 1150), (.str z1 1151), (.int (.ofNat 369) 0), (.int (.ofNat 2) 0), (.int (.ofNat 0) 0), (.int (.ofNat 0) 0), (.int (.ofNat 3) 0), (.ref 587), (.bool true), (.int (.ofNat 181) 0), (.ref 588), .none, (.ref 589), (.ref 590), (.ref 591), (.int (.ofNat 1156) 0), (.int (.ofNat 369) 0), (.str z1 1157)]⟩, ⟨[]⟩⟩
noncomputable def o593 : Obj := ⟨(.type PySem.W.SL.s7174869446012820540x8), none, .func (fd (st 125) z116 z116 3 0 (.str z232 1134) (.ref 592)), ⟨[]⟩⟩
noncomputable def o594 : Obj := ⟨(.type PySem.W.SL.s2766695959194262286x5), none, .seq ⟨[]⟩ 0, ⟨[]⟩⟩
noncomputable def o595 : Obj := ⟨.none, none, .fields ⟨[]⟩, ⟨[]⟩⟩
noncomputable def o596 : Obj := ⟨(.type PySem.W.SL.s2766695959194262286x5), none, .seq ⟨[(.str z17 1162), (.str z240 1163), (.str z180 1164), (.str z241 1165)]⟩ 0, ⟨[]⟩⟩
noncomputable def o597 : Obj := ⟨(.type PySem.W.SL.s2766695959194262286x5), none, .seq ⟨[]⟩ 0, ⟨[]⟩⟩
noncomputable def o598 : Obj := ⟨.none, none, .func (fd (st 126) z231 z231 0 0 .none .none), ⟨[]⟩⟩
noncomputable def o599 : Obj := ⟨(.type PySem.W.SL.s5856160107412720595x4), none, .fields ⟨[(.str z231 1159), (.str z231 1160), (.str z1 1161), (.int (.ofNat 372) 0), (.int (.ofNat 2) 0), (.int (.ofNat 0) 0), (.int (.ofNat 0) 0), (.int (.ofNat 3) 0), (.ref 594), (.bool true), (.int (.ofNat 181) 0), (.ref 595), .none, (.ref 596), (.ref 597), (.ref 598), (.int (.ofNat 1166) 0), (.int (.ofNat 372) 0), (.str z1 1167)]⟩, ⟨[]⟩⟩
noncomputable def o600 : Obj := ⟨(.type PySem.W.SL.s7174869446012820540x8), none, .func (fd (st 126) z231 z231 3 0 (.str z232 1134) (.ref 599)), ⟨[]⟩⟩
noncomputable def T19 (P : Params) : BT := setAll (insAll (T18 P) 560 [o560, o561, (o562 P), o563, o564, o565, o566, o567, o568, o569, o570, o571, o572, o573, o574, (o575 P), o576, o577, o578, o579, o580, o581, o582, o583, o584, o585, o586, o587, o588, o589, o590, o591, o592, o593, o594, o595, o596, o597, o598, o599, o600]) [(3, (o3v19 P)), (12, o12v19), (388, o388v19)]
noncomputable def o3v20l (P : Params) : List DictEntry := o3v19l P ++ [ke P z242 1175 (.ref 607), ke P z243 1184 (.ref 614), ke P z244 1193 (.ref 621), ke P z245 1204 (.ref 628), ke P z246 1217 (.ref 635), ke P z247 1226 (.ref 642), ke P z248 1237 (.ref 649), ke P z249 1247 (.ref 656), ke P z250 1257 (.ref 663), ke P z251 1264 (.ref 670), ke P z252 1271 (.ref 677), ke P z253 1279 (.ref 684)]
noncomputable def o3v20 (P : Params) : Obj := ⟨(.type PySem.W.SL.s14018661285674007319x4), none, .dict ⟨(ke P z15 165 (.str z232 1134)) :: o3v20l P⟩ 141, ⟨[]⟩⟩
noncomputable def o12v20f : List Value := o12v19f ++ [(.int (.ofNat 375) 0), (.int (.ofNat 0) 0), (.ref 606), (.int (.ofNat 379) 0), (.int (.ofNat 0) 0), (.ref 613), (.int (.ofNat 391) 0), (.int (.ofNat 0) 0), (.ref 620), (.int (.ofNat 397) 0), (.int (.ofNat 0) 0), (.ref 627), (.int (.ofNat 402) 0), (.int (.ofNat 0) 0), (.ref 634), (.int (.ofNat 416) 0), (.int (.ofNat 0) 0), (.ref 641), (.int (.ofNat 422) 0), (.int (.ofNat 0) 0), (.ref 648), (.int (.ofNat 436) 0), (.int (.ofNat 0) 0), (.ref 655), (.int (.ofNat 442) 0), (.int (.ofNat 0) 0), (.ref 662), (.int (.ofNat 447) 0), (.int (.ofNat 0) 0), (.ref 669), (.int (.ofNat 449) 0), (.int (.ofNat 0) 0), (.ref 676), (.int (.ofNat 451) 0), (.int (.ofNat 0) 0), (.ref 683)]
noncomputable def o12v20 : Obj := ⟨.none, none, .fields ⟨o12v20f⟩, ⟨[]⟩⟩
noncomputable def o601 : Obj := ⟨(.type PySem.W.SL.s2766695959194262286x5), none, .seq ⟨[]⟩ 0, ⟨[]⟩⟩
noncomputable def o602 : Obj := ⟨.none, none, .fields ⟨[]⟩, ⟨[]⟩⟩
noncomputable def o603 : Obj := ⟨(.type PySem.W.SL.s2766695959194262286x5), none, .seq ⟨[(.str z17 1172)]⟩ 0, ⟨[]⟩⟩
noncomputable def o604 : Obj := ⟨(.type PySem.W.SL.s2766695959194262286x5), none, .seq ⟨[]⟩ 0, ⟨[]⟩⟩
noncomputable def o605 : Obj := ⟨.none, none, .func (fd (st 127) z242 z242 0 0 .none .none), ⟨[]⟩⟩
noncomputable def o606 : Obj := ⟨(.type PySem.W.SL.s5856160107412720595x4), none, .fields ⟨[(.str z242 1169), (.str z242 1170), (.str z1 1171), (.int (.ofNat 375) 0), (.int (.ofNat 1) 0), (.int (.ofNat 0) 0), (.int (.ofNat 0) 0), (.int (.ofNat 3) 0), (.ref 601), (.bool true), (.int (.ofNat 181) 0), (.ref 602), .none, (.ref 603), (.ref 604), (.ref 605), (.int (.ofNat 1173) 0), (.int (.ofNat 375) 0), (.str z1 1174)]⟩, ⟨[]⟩⟩
noncomputable def o607 : Obj := ⟨(.type PySem.W.SL.s7174869446012820540x8), none, .func (fd (st 127) z242 z242 3 0 (.str z232 1134) (.ref 606)), ⟨[]⟩⟩
noncomputable def o608 : Obj := ⟨(.type PySem.W.SL.s2766695959194262286x5), none, .seq ⟨[]⟩ 0, ⟨[]⟩⟩
noncomputable def o609 : Obj := ⟨.none, none, .fields ⟨[]⟩, ⟨[]⟩⟩
noncomputable def o610 : Obj := ⟨(.type PySem.W.SL.s2766695959194262286x5), none, .seq ⟨[(.str z254 1179), (.str z255 1180), (.str z256 1181)]⟩ 0, ⟨[]⟩⟩
noncomputable def o611 : Obj := ⟨(.type PySem.W.SL.s2766695959194262286x5), none, .seq ⟨[]⟩ 0, ⟨[]⟩⟩
noncomputable def o612 : Obj := ⟨.none, none, .func (fd (st 128) z243 z243 0 0 .none .none), ⟨[]⟩⟩
noncomputable def o613 : Obj := ⟨(.type PySem.W.SL.s5856160107412720595x4), none, .fields ⟨[(.str z243 1176), (.str z243 1177), (.str z1 1178), (.int (.ofNat 379) 0), (.int (.ofNat 3) 0), (.int (.ofNat 0) 0), (.int (.ofNat 0) 0), (.int (.ofNat 3) 0), (.ref 608), (.bool true), (.int (.ofNat 181) 0), (.ref 609), .none, (.ref 610), (.ref 611), (.ref 612), (.int (.ofNat 1182) 0), (.int (.ofNat 379) 0), (.str z1 1183)]⟩, ⟨[]⟩⟩
noncomputable def o614 : Obj := ⟨(.type PySem.W.SL.s7174869446012820540x8), none, .func (fd (st 128) z243 z243 3 0 (.str z232 1134) (.ref 613)), ⟨[]⟩⟩
noncomputable def o615 : Obj := ⟨(.type PySem.W.SL.s2766695959194262286x5), none, .seq ⟨[]⟩ 0, ⟨[]⟩⟩
noncomputable def o616 : Obj := ⟨.none, none, .fields ⟨[]⟩, ⟨[]⟩⟩
noncomputable def o617 : Obj := ⟨(.type PySem.W.SL.s2766695959194262286x5), none, .seq ⟨[(.str z254 1188), (.str z255 1189), (.str z256 1190)]⟩ 0, ⟨[]⟩⟩
noncomputable def o618 : Obj := ⟨(.type PySem.W.SL.s2766695959194262286x5), none, .seq ⟨[]⟩ 0, ⟨[]⟩⟩
noncomputable def o619 : Obj := ⟨.none, none, .func (fd (st 129) z244 z244 0 0 .none .none), ⟨[]⟩⟩
noncomputable def o620 : Obj := ⟨(.type PySem.W.SL.s5856160107412720595x4), none, .fields ⟨[(.str z244 1185), (.str z244 1186), (.str z1 1187), (.int (.ofNat 391) 0), (.int (.ofNat 3) 0), (.int (.ofNat 0) 0), (.int (.ofNat 0) 0), (.int (.ofNat 3) 0), (.ref 615), (.bool true), (.int (.ofNat 181) 0), (.ref 616), .none, (.ref 617), (.ref 618), (.ref 619), (.int (.ofNat 1191) 0), (.int (.ofNat 391) 0), (.str z1 1192)]⟩, ⟨[]⟩⟩
noncomputable def o621 : Obj := ⟨(.type PySem.W.SL.s7174869446012820540x8), none, .func (fd (st 129) z244 z244 3 0 (.str z232 1134) (.ref 620)), ⟨[]⟩⟩
noncomputable def o622 : Obj := ⟨(.type PySem.W.SL.s2766695959194262286x5), none, .seq ⟨[]⟩ 0, ⟨[]⟩⟩
noncomputable def o623 : Obj := ⟨.none, none, .fields ⟨[]⟩, ⟨[]⟩⟩
noncomputable def o624 : Obj := ⟨(.type PySem.W.SL.s2766695959194262286x5), none, .seq ⟨[(.str z254 1197), (.str z17 1198), (.str z255 1199), (.str z256 1200), (.str z240 1201)]⟩ 0, ⟨[]⟩⟩
noncomputable def o625 : Obj := ⟨(.type PySem.W.SL.s2766695959194262286x5), none, .seq ⟨[]⟩ 0, ⟨[]⟩⟩
noncomputable def o626 : Obj := ⟨.none, none, .func (fd (st 130) z245 z245 0 0 .none .none), ⟨[]⟩⟩
noncomputable def o627 : Obj := ⟨(.type PySem.W.SL.s5856160107412720595x4), none, .fields ⟨[(.str z245 1194), (.str z245 1195), (.str z1 1196), (.int (.ofNat 397) 0), (.int (.ofNat 4) 0), (.int (.ofNat 0) 0), (.int (.ofNat 0) 0), (.int (.ofNat 3) 0), (.ref 622), (.bool true), (.int (.ofNat 181) 0), (.ref 623), .none, (.ref 624), (.ref 625), (.ref 626), (.int (.ofNat 1202) 0), (.int (.ofNat 397) 0), (.str z1 1203)]⟩, ⟨[]⟩⟩
noncomputable def o628 : Obj := ⟨(.type PySem.W.SL.s7174869446012820540x8), none, .func (fd (st 130) z245 z245 3 0 (.str z232 1134) (.ref 627)), ⟨[]⟩⟩
noncomputable def o629 : Obj := ⟨(.type PySem.W.SL.s2766695959194262286x5), none, .seq ⟨[]⟩ 0, ⟨[]⟩⟩
noncomputable def o630 : Obj := ⟨.none, none, .fields ⟨[]⟩, ⟨[]⟩⟩
noncomputable def o631 : Obj := ⟨(.type PySem.W.SL.s2766695959194262286x5), none, .seq ⟨[(.str z254 1208), (.str z17 1209), (.str z255 1210), (.str z256 1211), (.str z257 1212), (.str z180 1213), (.str z258 1214)]⟩ 0, ⟨[]⟩⟩
noncomputable def o632 : Obj := ⟨(.type PySem.W.SL.s2766695959194262286x5), none, .seq ⟨[]⟩ 0, ⟨[]⟩⟩
noncomputable def o633 : Obj := ⟨.none, none, .func (fd (st 131) z246 z246 0 0 .none .none), ⟨[]⟩⟩
noncomputable def o634 : Obj := ⟨(.type PySem.W.SL.s5856160107412720595x4), none, .fields ⟨[(.str z246 1205), (.str z246 1206), (.str z1 1207), (.int (.ofNat 402) 0), (.int (.ofNat 5) 0), (.int (.ofNat 0) 0), (.int (.ofNat 0) 0), (.int (.ofNat 3) 0), (.ref 629), (.bool true), (.int (.ofNat 181) 0), (.ref 630), .none, (.ref 631), (.ref 632), (.ref 633), (.int (.ofNat 1215) 0), (.int (.ofNat 402) 0), (.str z1 1216)]⟩, ⟨[]⟩⟩
noncomputable def o635 : Obj := ⟨(.type PySem.W.SL.s7174869446012820540x8), none, .func (fd (st 131) z246 z246 3 0 (.str z232 1134) (.ref 634)), ⟨[]⟩⟩
noncomputable def o636 : Obj := ⟨(.type PySem.W.SL.s2766695959194262286x5), none, .seq ⟨[]⟩ 0, ⟨[]⟩⟩
noncomputable def o637 : Obj := ⟨.none, none, .fields ⟨[]⟩, ⟨[]⟩⟩
noncomputable def o638 : Obj := ⟨(.type PySem.W.SL.s2766695959194262286x5), none, .seq ⟨[(.str z17 1221), (.str z240 1222), (.str z257 1223)]⟩ 0, ⟨[]⟩⟩
noncomputable def o639 : Obj := ⟨(.type PySem.W.SL.s2766695959194262286x5), none, .seq ⟨[]⟩ 0, ⟨[]⟩⟩
noncomputable def o640 : Obj := ⟨.none, none, .func (fd (st 132) z247 z247 0 0 .none .none), ⟨[]⟩⟩
noncomputable def o641 : Obj := ⟨(.type PySem.W.SL.s5856160107412720595x4), none, .fields ⟨[(.str z247 1218), (.str z247 1219), (.str z1 1220), (.int (.ofNat 416) 0), (.int (.ofNat 3) 0), (.int (.ofNat 0) 0), (.int (.ofNat 0) 0), (.int (.ofNat 3) 0), (.ref 636), (.bool true), (.int (.ofNat 181) 0), (.ref 637), .none, (.ref 638), (.ref 639), (.ref 640), (.int (.ofNat 1224) 0), (.int (.ofNat 416) 0), (.str z1 1225)]⟩, ⟨[]⟩⟩
noncomputable def o642 : Obj := ⟨(.type PySem.W.SL.s7174869446012820540x8), none, .func (fd (st 132) z247 z247 3 0 (.str z232 1134) (.ref 641)), ⟨[]⟩⟩
noncomputable def o643 : Obj := ⟨(.type PySem.W.SL.s2766695959194262286x5), none, .seq ⟨[]⟩ 0, ⟨[]⟩⟩
noncomputable def o644 : Obj := ⟨.none, none, .fields ⟨[]⟩, ⟨[]⟩⟩
noncomputable def o645 : Obj := ⟨(.type PySem.W.SL.s2766695959194262286x5), none, .seq ⟨[(.str z254 1230), (.str z17 1231), (.str z255 1232), (.str z256 1233), (.str z257 1234)]⟩ 0, ⟨[]⟩⟩
noncomputable def o646 : Obj := ⟨(.type PySem.W.SL.s2766695959194262286x5), none, .seq ⟨[]⟩ 0, ⟨[]⟩⟩
noncomputable def o647 : Obj := ⟨.none, none, .func (fd (st 133) z248 z248 0 0 .none .none), ⟨[]⟩⟩
noncomputable def o648 : Obj := ⟨(.type PySem.W.SL.s5856160107412720595x4), none, .fields ⟨[(.str z248 1227), (.str z248 1228), (.str z1 1229), (.int (.ofNat 422) 0), (.int (.ofNat 5) 0), (.int (.ofNat 0) 0), (.int (.ofNat 0) 0), (.int (.ofNat 3) 0), (.ref 643), (.bool true), (.int (.ofNat 181) 0), (.ref 644), .none, (.ref 645), (.ref 646), (.ref 647), (.int (.ofNat 1235) 0), (.int (.ofNat 422) 0), (.str z1 1236)]⟩, ⟨[]⟩⟩
noncomputable def o649 : Obj := ⟨(.type PySem.W.SL.s7174869446012820540x8), none, .func (fd (st 133) z248 z248 3 0 (.str z232 1134) (.ref 648)), ⟨[]⟩⟩
noncomputable def o650 : Obj := ⟨(.type PySem.W.SL.s2766695959194262286x5), none, .seq ⟨[]⟩ 0, ⟨[]⟩⟩
noncomputable def o651 : Obj := ⟨.none, none, .fields ⟨[]⟩, ⟨[]⟩⟩
noncomputable def o652 : Obj := ⟨(.type PySem.W.SL.s2766695959194262286x5), none, .seq ⟨[(.str z254 1241), (.str z17 1242), (.str z255 1243), (.str z257 1244)]⟩ 0, ⟨[]⟩⟩
noncomputable def o653 : Obj := ⟨(.type PySem.W.SL.s2766695959194262286x5), none, .seq ⟨[]⟩ 0, ⟨[]⟩⟩
noncomputable def o654 : Obj := ⟨.none, none, .func (fd (st 134) z249 z249 0 0 .none .none), ⟨[]⟩⟩
noncomputable def o655 : Obj := ⟨(.type PySem.W.SL.s5856160107412720595x4), none, .fields ⟨[(.str z249 1238), (.str z249 1239), (.str z1 1240), (.int (.ofNat 436) 0), (.int (.ofNat 4) 0), (.int (.ofNat 0) 0), (.int (.ofNat 0) 0), (.int (.ofNat 3) 0), (.ref 650), (.bool true), (.int (.ofNat 181) 0), (.ref 651), .none, (.ref 652), (.ref 653), (.ref 654), (.int (.ofNat 1245) 0), (.int (.ofNat 436) 0), (.str z1 1246)]⟩, ⟨[]⟩⟩
noncomputable def o656 : Obj := ⟨(.type PySem.W.SL.s7174869446012820540x8), none, .func (fd (st 134) z249 z249 3 0 (.str z232 1134) (.ref 655)), ⟨[]⟩⟩
noncomputable def o657 : Obj := ⟨(.type PySem.W.SL.s2766695959194262286x5), none, .seq ⟨[]⟩ 0, ⟨[]⟩⟩
noncomputable def o658 : Obj := ⟨.none, none, .fields ⟨[]⟩, ⟨[]⟩⟩
noncomputable def o659 : Obj := ⟨(.type PySem.W.SL.s2766695959194262286x5), none, .seq ⟨[(.str z17 1251), (.str z259 1252), (.str z257 1253), (.str z260 1254)]⟩ 0, ⟨[]⟩⟩
noncomputable def o660 : Obj := ⟨(.type PySem.W.SL.s2766695959194262286x5), none, .seq ⟨[]⟩ 0, ⟨[]⟩⟩
noncomputable def o661 : Obj := ⟨.none, none, .func (fd (st 135) z250 z250 0 0 .none .none), ⟨[]⟩⟩
noncomputable def o662 : Obj := ⟨(.type PySem.W.SL.s5856160107412720595x4), none, .fields ⟨[(.str z250 1248), (.str z250 1249), (.str z1 1250), (.int (.ofNat 442) 0), (.int (.ofNat 3) 0), (.int (.ofNat 0) 0), (.int (.ofNat 0) 0), (.int (.ofNat 3) 0), (.ref 657), (.bool true), (.int (.ofNat 181) 0), (.ref 658), .none, (.ref 659), (.ref 660), (.ref 661), (.int (.ofNat 1255) 0), (.int (.ofNat 442) 0), (.str z1 1256)]⟩, ⟨[]⟩⟩
noncomputable def o663 : Obj := ⟨(.type PySem.W.SL.s7174869446012820540x8), none, .func (fd (st 135) z250 z250 3 0 (.str z232 1134) (.ref 662)), ⟨[]⟩⟩
noncomputable def o664 : Obj := ⟨(.type PySem.W.SL.s2766695959194262286x5), none, .seq ⟨[]⟩ 0, ⟨[]⟩⟩
noncomputable def o665 : Obj := ⟨.none, none, .fields ⟨[]⟩, ⟨[]⟩⟩
noncomputable def o666 : Obj := ⟨(.type PySem.W.SL.s2766695959194262286x5), none, .seq ⟨[(.str z177 1261)]⟩ 0, ⟨[]⟩⟩
noncomputable def o667 : Obj := ⟨(.type PySem.W.SL.s2766695959194262286x5), none, .seq ⟨[]⟩ 0, ⟨[]⟩⟩
noncomputable def o668 : Obj := ⟨.none, none, .func (fd (st 136) z251 z251 0 0 .none .none), ⟨[]⟩⟩
noncomputable def o669 : Obj := ⟨(.type PySem.W.SL.s5856160107412720595x4), none, .fields ⟨[(.str z251 1258), (.str z251 1259), (.str z1 1260), (.int (.ofNat 447) 0), (.int (.ofNat 1) 0), (.int (.ofNat 0) 0), (.int (.ofNat 0) 0), (.int (.ofNat 3) 0), (.ref 664), (.bool true), (.int (.ofNat 181) 0), (.ref 665), .none, (.ref 666), (.ref 667), (.ref 668), (.int (.ofNat 1262) 0), (.int (.ofNat 447) 0), (.str z1 1263)]⟩, ⟨[]⟩⟩
noncomputable def o670 : Obj := ⟨(.type PySem.W.SL.s7174869446012820540x8), none, .func (fd (st 136) z251 z251 3 0 (.str z232 1134) (.ref 669)), ⟨[]⟩⟩
noncomputable def o671 : Obj := ⟨(.type PySem.W.SL.s2766695959194262286x5), none, .seq ⟨[]⟩ 0, ⟨[]⟩⟩
noncomputable def o672 : Obj := ⟨.none, none, .fields ⟨[]⟩, ⟨[]⟩⟩
noncomputable def o673 : Obj := ⟨(.type PySem.W.SL.s2766695959194262286x5), none, .seq ⟨[(.str z177 1268)]⟩ 0, ⟨[]⟩⟩
noncomputable def o674 : Obj := ⟨(.type PySem.W.SL.s2766695959194262286x5), none, .seq ⟨[]⟩ 0, ⟨[]⟩⟩
noncomputable def o675 : Obj := ⟨.none, none, .func (fd (st 137) z252 z252 0 0 .none .none), ⟨[]⟩⟩
noncomputable def o676 : Obj := ⟨(.type PySem.W.SL.s5856160107412720595x4), none, .fields ⟨[(.str z252 1265), (.str z252 1266), (.str z1 1267), (.int (.ofNat 449) 0), (.int (.ofNat 1) 0), (.int (.ofNat 0) 0), (.int (.ofNat 0) 0), (.int (.ofNat 3) 0), (.ref 671), (.bool true), (.int (.ofNat 181) 0), (.ref 672), .none, (.ref 673), (.ref 674), (.ref 675), (.int (.ofNat 1269) 0), (.int (.ofNat 449) 0), (.str z1 1270)]⟩, ⟨[]⟩⟩
noncomputable def o677 : Obj := ⟨(.type PySem.W.SL.s7174869446012820540x8), none, .func (fd (st 137) z252 z252 3 0 (.str z232 1134) (.ref 676)), ⟨[]⟩⟩
noncomputable def o678 : Obj := ⟨(.type PySem.W.SL.s2766695959194262286x5), none, .seq ⟨[]⟩ 0, ⟨[]⟩⟩
noncomputable def o679 : Obj := ⟨.none, none, .fields ⟨[]⟩, ⟨[]⟩⟩
noncomputable def o680 : Obj := ⟨(.type PySem.W.SL.s2766695959194262286x5), none, .seq ⟨[(.str z177 1275), (.str z260 1276)]⟩ 0, ⟨[]⟩⟩
noncomputable def o681 : Obj := ⟨(.type PySem.W.SL.s2766695959194262286x5), none, .seq ⟨[]⟩ 0, ⟨[]⟩⟩
noncomputable def o682 : Obj := ⟨.none, none, .func (fd (st 138) z253 z253 0 0 .none .none), ⟨[]⟩⟩
noncomputable def o683 : Obj := ⟨(.type PySem.W.SL.s5856160107412720595x4), none, .fields ⟨[(.str z253 1272), (.str z253 1273), (.str z1 1274), (.int (.ofNat 451) 0), (.int (.ofNat 2) 0), (.int (.ofNat 0) 0), (.int (.ofNat 0) 0), (.int (.ofNat 3) 0), (.ref 678), (.bool true), (.int (.ofNat 181) 0), (.ref 679), .none, (.ref 680), (.ref 681), (.ref 682), (.int (.ofNat 1277) 0), (.int (.ofNat 451) 0), (.str z1 1278)]⟩, ⟨[]⟩⟩
noncomputable def o684 : Obj := ⟨(.type PySem.W.SL.s7174869446012820540x8), none, .func (fd (st 138) z253 z253 3 0 (.str z232 1134) (.ref 683)), ⟨[]⟩⟩
noncomputable def T20 (P : Params) : BT := setAll (insAll (T19 P) 601 [o601, o602, o603, o604, o605, o606, o607, o608, o609, o610, o611, o612, o613, o614, o615, o616, o617, o618, o619, o620, o621, o622, o623, o624, o625, o626, o627, o628, o629, o630, o631, o632, o633, o634, o635, o636, o637, o638, o639, o640, o641, o642, o643, o644, o645, o646, o647, o648, o649, o650, o651, o652, o653, o654, o655, o656, o657, o658, o659, o660, o661, o662, o663, o664, o665, o666, o667, o668, o669, o670, o671, o672, o673, o674, o675, o676, o677, o678, o679, o680, o681, o682, o683, o684]) [(3, (o3v20 P)), (12, o12v20)]
noncomputable def o3v21l (P : Params) : List DictEntry := o3v20l P ++ [ke P z261 1288 (.ref 691), ke P z262 1295 (.ref 698), ke P z263 1302 (.ref 705), ke P z264 1309 (.ref 712), ke P z265 1316 (.ref 719), ke P z266 1323 (.ref 726), ke P z267 1330 (.ref 733), ke P z268 1337 (.ref 740), ke P z269 1345 (.ref 747), ke P z270 1352 (.ref 754), ke P z271 1359 (.ref 761), ke P z272 1370 (.ref 768), ke P z273 1378 (.ref 775)]
noncomputable def o3v21 (P : Params) : Obj := ⟨(.type PySem.W.SL.s14018661285674007319x4), none, .dict ⟨(ke P z15 165 (.str z232 1134)) :: o3v21l P⟩ 154, ⟨[]⟩⟩
noncomputable def o12v21f : List Value := o12v20f ++ [(.int (.ofNat 455) 0), (.int (.ofNat 0) 0), (.ref 690), (.int (.ofNat 463) 0), (.int (.ofNat 0) 0), (.ref 697), (.int (.ofNat 465) 0), (.int (.ofNat 0) 0), (.ref 704), (.int (.ofNat 469) 0), (.int (.ofNat 0) 0), (.ref 711), (.int (.ofNat 473) 0), (.int (.ofNat 0) 0), (.ref 718), (.int (.ofNat 479) 0), (.int (.ofNat 0) 0), (.ref 725), (.int (.ofNat 485) 0), (.int (.ofNat 0) 0), (.ref 732), (.int (.ofNat 489) 0), (.int (.ofNat 0) 0), (.ref 739), (.int (.ofNat 495) 0), (.int (.ofNat 0) 0), (.ref 746), (.int (.ofNat 510) 0), (.int (.ofNat 0) 0), (.ref 753), (.int (.ofNat 516) 0), (.int (.ofNat 0) 0), (.ref 760), (.int (.ofNat 524) 0), (.int (.ofNat 0) 0), (.ref 767), (.int (.ofNat 541) 0), (.int (.ofNat 0) 0), (.ref 774)]
noncomputable def o12v21 : Obj := ⟨.none, none, .fields ⟨o12v21f⟩, ⟨[]⟩⟩
noncomputable def o685 : Obj := ⟨(.type PySem.W.SL.s2766695959194262286x5), none, .seq ⟨[]⟩ 0, ⟨[]⟩⟩
noncomputable def o686 : Obj := ⟨.none, none, .fields ⟨[]⟩, ⟨[]⟩⟩
noncomputable def o687 : Obj := ⟨(.type PySem.W.SL.s2766695959194262286x5), none, .seq ⟨[(.str z177 1283), (.str z218 1284), (.str z219 1285)]⟩ 0, ⟨[]⟩⟩
noncomputable def o688 : Obj := ⟨(.type PySem.W.SL.s2766695959194262286x5), none, .seq ⟨[]⟩ 0, ⟨[]⟩⟩
noncomputable def o689 : Obj := ⟨.none, none, .func (fd (st 139) z261 z261 0 0 .none .none), ⟨[]⟩⟩
noncomputable def o690 : Obj := ⟨(.type PySem.W.SL.s5856160107412720595x4), none, .fields ⟨[(.str z261 1280), (.str z261 1281), (.str z1 1282), (.int (.ofNat 455) 0), (.int (.ofNat 1) 0), (.int (.ofNat 0) 0), (.int (.ofNat 0) 0), (.int (.ofNat 3) 0), (.ref 685), (.bool true), (.int (.ofNat 181) 0), (.ref 686), .none, (.ref 687), (.ref 688), (.ref 689), (.int (.ofNat 1286) 0), (.int (.ofNat 455) 0), (.str z1 1287)]⟩, ⟨[]⟩⟩
noncomputable def o691 : Obj := ⟨(.type PySem.W.SL.s7174869446012820540x8), none, .func (fd (st 139) z261 z261 3 0 (.str z232 1134) (.ref 690)), ⟨[]⟩⟩
noncomputable def o692 : Obj := ⟨(.type PySem.W.SL.s2766695959194262286x5), none, .seq ⟨[]⟩ 0, ⟨[]⟩⟩
noncomputable def o693 : Obj := ⟨.none, none, .fields ⟨[]⟩, ⟨[]⟩⟩
noncomputable def o694 : Obj := ⟨(.type PySem.W.SL.s2766695959194262286x5), none, .seq ⟨[(.str z177 1292)]⟩ 0, ⟨[]⟩⟩
noncomputable def o695 : Obj := ⟨(.type PySem.W.SL.s2766695959194262286x5), none, .seq ⟨[]⟩ 0, ⟨[]⟩⟩
noncomputable def o696 : Obj := ⟨.none, none, .func (fd (st 140) z262 z262 0 0 .none .none), ⟨[]⟩⟩
noncomputable def o697 : Obj := ⟨(.type PySem.W.SL.s5856160107412720595x4), none, .fields ⟨[(.str z262 1289), (.str z262 1290), (.str z1 1291), (.int (.ofNat 463) 0), (.int (.ofNat 1) 0), (.int (.ofNat 0) 0), (.int (.ofNat 0) 0), (.int (.ofNat 3) 0), (.ref 692), (.bool true), (.int (.ofNat 181) 0), (.ref 693), .none, (.ref 694), (.ref 695), (.ref 696), (.int (.ofNat 1293) 0), (.int (.ofNat 463) 0), (.str z1 1294)]⟩, ⟨[]⟩⟩
noncomputable def o698 : Obj := ⟨(.type PySem.W.SL.s7174869446012820540x8), none, .func (fd (st 140) z262 z262 3 0 (.str z232 1134) (.ref 697)), ⟨[]⟩⟩
noncomputable def o699 : Obj := ⟨(.type PySem.W.SL.s2766695959194262286x5), none, .seq ⟨[]⟩ 0, ⟨[]⟩⟩
noncomputable def o700 : Obj := ⟨.none, none, .fields ⟨[]⟩, ⟨[]⟩⟩
noncomputable def o701 : Obj := ⟨(.type PySem.W.SL.s2766695959194262286x5), none, .seq ⟨[(.str z177 1299)]⟩ 0, ⟨[]⟩⟩
noncomputable def o702 : Obj := ⟨(.type PySem.W.SL.s2766695959194262286x5), none, .seq ⟨[]⟩ 0, ⟨[]⟩⟩
noncomputable def o703 : Obj := ⟨.none, none, .func (fd (st 141) z263 z263 0 0 .none .none), ⟨[]⟩⟩
noncomputable def o704 : Obj := ⟨(.type PySem.W.SL.s5856160107412720595x4), none, .fields ⟨[(.str z263 1296), (.str z263 1297), (.str z1 1298), (.int (.ofNat 465) 0), (.int (.ofNat 1) 0), (.int (.ofNat 0) 0), (.int (.ofNat 0) 0), (.int (.ofNat 3) 0), (.ref 699), (.bool true), (.int (.ofNat 181) 0), (.ref 700), .none, (.ref 701), (.ref 702), (.ref 703), (.int (.ofNat 1300) 0), (.int (.ofNat 465) 0), (.str z1 1301)]⟩, ⟨[]⟩⟩
noncomputable def o705 : Obj := ⟨(.type PySem.W.SL.s7174869446012820540x8), none, .func (fd (st 141) z263 z263 3 0 (.str z232 1134) (.ref 704)), ⟨[]⟩⟩
noncomputable def o706 : Obj := ⟨(.type PySem.W.SL.s2766695959194262286x5), none, .seq ⟨[]⟩ 0, ⟨[]⟩⟩
noncomputable def o707 : Obj := ⟨.none, none, .fields ⟨[]⟩, ⟨[]⟩⟩
noncomputable def o708 : Obj := ⟨(.type PySem.W.SL.s2766695959194262286x5), none, .seq ⟨[(.str z177 1306)]⟩ 0, ⟨[]⟩⟩
noncomputable def o709 : Obj := ⟨(.type PySem.W.SL.s2766695959194262286x5), none, .seq ⟨[]⟩ 0, ⟨[]⟩⟩
noncomputable def o710 : Obj := ⟨.none, none, .func (fd (st 142) z264 z264 0 0 .none .none), ⟨[]⟩⟩
noncomputable def o711 : Obj := ⟨(.type PySem.W.SL.s5856160107412720595x4), none, .fields ⟨[(.str z264 1303), (.str z264 1304), (.str z1 1305), (.int (.ofNat 469) 0), (.int (.ofNat 1) 0), (.int (.ofNat 0) 0), (.int (.ofNat 0) 0), (.int (.ofNat 3) 0), (.ref 706), (.bool true), (.int (.ofNat 181) 0), (.ref 707), .none, (.ref 708), (.ref 709), (.ref 710), (.int (.ofNat 1307) 0), (.int (.ofNat 469) 0), (.str z1 1308)]⟩, ⟨[]⟩⟩
noncomputable def o712 : Obj := ⟨(.type PySem.W.SL.s7174869446012820540x8), none, .func (fd (st 142) z264 z264 3 0 (.str z232 1134) (.ref 711)), ⟨[]⟩⟩
noncomputable def o713 : Obj := ⟨(.type PySem.W.SL.s2766695959194262286x5), none, .seq ⟨[]⟩ 0, ⟨[]⟩⟩
noncomputable def o714 : Obj := ⟨.none, none, .fields ⟨[]⟩, ⟨[]⟩⟩
noncomputable def o715 : Obj := ⟨(.type PySem.W.SL.s2766695959194262286x5), none, .seq ⟨[(.str z177 1313)]⟩ 0, ⟨[]⟩⟩
noncomputable def o716 : Obj := ⟨(.type PySem.W.SL.s2766695959194262286x5), none, .seq ⟨[]⟩ 0, ⟨[]⟩⟩
noncomputable def o717 : Obj := ⟨.none, none, .func (fd (st 143) z265 z265 0 0 .none .none), ⟨[]⟩⟩
noncomputable def o718 : Obj := ⟨(.type PySem.W.SL.s5856160107412720595x4), none, .fields ⟨[(.str z265 1310), (.str z265 1311), (.str z1 1312), (.int (.ofNat 473) 0), (.int (.ofNat 1) 0), (.int (.ofNat 0) 0), (.int (.ofNat 0) 0), (.int (.ofNat 3) 0), (.ref 713), (.bool true), (.int (.ofNat 181) 0), (.ref 714), .none, (.ref 715), (.ref 716), (.ref 717), (.int (.ofNat 1314) 0), (.int (.ofNat 473) 0), (.str z1 1315)]⟩, ⟨[]⟩⟩
noncomputable def o719 : Obj := ⟨(.type PySem.W.SL.s7174869446012820540x8), none, .func (fd (st 143) z265 z265 3 0 (.str z232 1134) (.ref 718)), ⟨[]⟩⟩
noncomputable def o720 : Obj := ⟨(.type PySem.W.SL.s2766695959194262286x5), none, .seq ⟨[]⟩ 0, ⟨[]⟩⟩
noncomputable def o721 : Obj := ⟨.none, none, .fields ⟨[]⟩, ⟨[]⟩⟩
noncomputable def o722 : Obj := ⟨(.type PySem.W.SL.s2766695959194262286x5), none, .seq ⟨[(.str z177 1320)]⟩ 0, ⟨[]⟩⟩
noncomputable def o723 : Obj := ⟨(.type PySem.W.SL.s2766695959194262286x5), none, .seq ⟨[]⟩ 0, ⟨[]⟩⟩
noncomputable def o724 : Obj := ⟨.none, none, .func (fd (st 144) z266 z266 0 0 .none .none), ⟨[]⟩⟩
noncomputable def o725 : Obj := ⟨(.type PySem.W.SL.s5856160107412720595x4), none, .fields ⟨[(.str z266 1317), (.str z266 1318), (.str z1 1319), (.int (.ofNat 479) 0), (.int (.ofNat 1) 0), (.int (.ofNat 0) 0), (.int (.ofNat 0) 0), (.int (.ofNat 3) 0), (.ref 720), (.bool true), (.int (.ofNat 181) 0), (.ref 721), .none, (.ref 722), (.ref 723), (.ref 724), (.int (.ofNat 1321) 0), (.int (.ofNat 479) 0), (.str z1 1322)]⟩, ⟨[]⟩⟩
noncomputable def o726 : Obj := ⟨(.type PySem.W.SL.s7174869446012820540x8), none, .func (fd (st 144) z266 z266 3 0 (.str z232 1134) (.ref 725)), ⟨[]⟩⟩
noncomputable def o727 : Obj := ⟨(.type PySem.W.SL.s2766695959194262286x5), none, .seq ⟨[]⟩ 0, ⟨[]⟩⟩
noncomputable def o728 : Obj := ⟨.none, none, .fields ⟨[]⟩, ⟨[]⟩⟩
noncomputable def o729 : Obj := ⟨(.type PySem.W.SL.s2766695959194262286x5), none, .seq ⟨[(.str z177 1327)]⟩ 0, ⟨[]⟩⟩
noncomputable def o730 : Obj := ⟨(.type PySem.W.SL.s2766695959194262286x5), none, .seq ⟨[]⟩ 0, ⟨[]⟩⟩
noncomputable def o731 : Obj := ⟨.none, none, .func (fd (st 145) z267 z267 0 0 .none .none), ⟨[]⟩⟩
noncomputable def o732 : Obj := ⟨(.type PySem.W.SL.s5856160107412720595x4), none, .fields ⟨[(.str z267 1324), (.str z267 1325), (.str z1 1326), (.int (.ofNat 485) 0), (.int (.ofNat 1) 0), (.int (.ofNat 0) 0), (.int (.ofNat 0) 0), (.int (.ofNat 3) 0), (.ref 727), (.bool true), (.int (.ofNat 181) 0), (.ref 728), .none, (.ref 729), (.ref 730), (.ref 731), (.int (.ofNat 1328) 0), (.int (.ofNat 485) 0), (.str z1 1329)]⟩, ⟨[]⟩⟩
noncomputable def o733 : Obj := ⟨(.type PySem.W.SL.s7174869446012820540x8), none, .func (fd (st 145) z267 z267 3 0 (.str z232 1134) (.ref 732)), ⟨[]⟩⟩
noncomputable def o734 : Obj := ⟨(.type PySem.W.SL.s2766695959194262286x5), none, .seq ⟨[]⟩ 0, ⟨[]⟩⟩
noncomputable def o735 : Obj := ⟨.none, none, .fields ⟨[]⟩, ⟨[]⟩⟩
noncomputable def o736 : Obj := ⟨(.type PySem.W.SL.s2766695959194262286x5), none, .seq ⟨[(.str z177 1334)]⟩ 0, ⟨[]⟩⟩
noncomputable def o737 : Obj := ⟨(.type PySem.W.SL.s2766695959194262286x5), none, .seq ⟨[]⟩ 0, ⟨[]⟩⟩
noncomputable def o738 : Obj := ⟨.none, none, .func (fd (st 146) z268 z268 0 0 .none .none), ⟨[]⟩⟩
noncomputable def o739 : Obj := ⟨(.type PySem.W.SL.s5856160107412720595x4), none, .fields ⟨[(.str z268 1331), (.str z268 1332), (.str z1 1333), (.int (.ofNat 489) 0), (.int (.ofNat 1) 0), (.int (.ofNat 0) 0), (.int (.ofNat 0) 0), (.int (.ofNat 3) 0), (.ref 734), (.bool true), (.int (.ofNat 181) 0), (.ref 735), .none, (.ref 736), (.ref 737), (.ref 738), (.int (.ofNat 1335) 0), (.int (.ofNat 489) 0), (.str z1 1336)]⟩, ⟨[]⟩⟩
noncomputable def o740 : Obj := ⟨(.type PySem.W.SL.s7174869446012820540x8), none, .func (fd (st 146) z268 z268 3 0 (.str z232 1134) (.ref 739)), ⟨[]⟩⟩
noncomputable def o741 : Obj := ⟨(.type PySem.W.SL.s2766695959194262286x5), none, .seq ⟨[]⟩ 0, ⟨[]⟩⟩
noncomputable def o742 : Obj := ⟨.none, none, .fields ⟨[]⟩, ⟨[]⟩⟩
noncomputable def o743 : Obj := ⟨(.type PySem.W.SL.s2766695959194262286x5), none, .seq ⟨[(.str z177 1341), (.str z77 1342)]⟩ 0, ⟨[]⟩⟩
noncomputable def o744 : Obj := ⟨(.type PySem.W.SL.s2766695959194262286x5), none, .seq ⟨[]⟩ 0, ⟨[]⟩⟩
noncomputable def o745 : Obj := ⟨.none, none, .func (fd (st 147) z269 z269 0 0 .none .none), ⟨[]⟩⟩
noncomputable def o746 : Obj := ⟨(.type PySem.W.SL.s5856160107412720595x4), none, .fields ⟨[(.str z269 1338), (.str z269 1339), (.str z1 1340), (.int (.ofNat 495) 0), (.int (.ofNat 1) 0), (.int (.ofNat 0) 0), (.int (.ofNat 0) 0), (.int (.ofNat 3) 0), (.ref 741), (.bool true), (.int (.ofNat 181) 0), (.ref 742), .none, (.ref 743), (.ref 744), (.ref 745), (.int (.ofNat 1343) 0), (.int (.ofNat 495) 0), (.str z1 1344)]⟩, ⟨[]⟩⟩
noncomputable def o747 : Obj := ⟨(.type PySem.W.SL.s7174869446012820540x8), none, .func (fd (st 147) z269 z269 3 0 (.str z232 1134) (.ref 746)), ⟨[]⟩⟩
noncomputable def o748 : Obj := ⟨(.type PySem.W.SL.s2766695959194262286x5), none, .seq ⟨[]⟩ 0, ⟨[]⟩⟩
noncomputable def o749 : Obj := ⟨.none, none, .fields ⟨[]⟩, ⟨[]⟩⟩
noncomputable def o750 : Obj := ⟨(.type PySem.W.SL.s2766695959194262286x5), none, .seq ⟨[(.str z177 1349)]⟩ 0, ⟨[]⟩⟩
noncomputable def o751 : Obj := ⟨(.type PySem.W.SL.s2766695959194262286x5), none, .seq ⟨[]⟩ 0, ⟨[]⟩⟩
noncomputable def o752 : Obj := ⟨.none, none, .func (fd (st 148) z270 z270 0 0 .none .none), ⟨[]⟩⟩
noncomputable def o753 : Obj := ⟨(.type PySem.W.SL.s5856160107412720595x4), none, .fields ⟨[(.str z270 1346), (.str z270 1347), (.str z1 1348), (.int (.ofNat 510) 0), (.int (.ofNat 1) 0), (.int (.ofNat 0) 0), (.int (.ofNat 0) 0), (.int (.ofNat 3) 0), (.ref 748), (.bool true), (.int (.ofNat 181) 0), (.ref 749), .none, (.ref 750), (.ref 751), (.ref 752), (.int (.ofNat 1350) 0), (.int (.ofNat 510) 0), (.str z1 1351)]⟩, ⟨[]⟩⟩
noncomputable def o754 : Obj := ⟨(.type PySem.W.SL.s7174869446012820540x8), none, .func (fd (st 148) z270 z270 3 0 (.str z232 1134) (.ref 753)), ⟨[]⟩⟩
noncomputable def o755 : Obj := ⟨(.type PySem.W.SL.s2766695959194262286x5), none, .seq ⟨[]⟩ 0, ⟨[]⟩⟩
noncomputable def o756 : Obj := ⟨.none, none, .fields ⟨[]⟩, ⟨[]⟩⟩
noncomputable def o757 : Obj := ⟨(.type PySem.W.SL.s2766695959194262286x5), none, .seq ⟨[(.str z176 1356)]⟩ 0, ⟨[]⟩⟩
noncomputable def o758 : Obj := ⟨(.type PySem.W.SL.s2766695959194262286x5), none, .seq ⟨[]⟩ 0, ⟨[]⟩⟩
noncomputable def o759 : Obj := ⟨.none, none, .func (fd (st 149) z271 z271 0 0 .none .none), ⟨[]⟩⟩
noncomputable def o760 : Obj := ⟨(.type PySem.W.SL.s5856160107412720595x4), none, .fields ⟨[(.str z271 1353), (.str z271 1354), (.str z1 1355), (.int (.ofNat 516) 0), (.int (.ofNat 1) 0), (.int (.ofNat 0) 0), (.int (.ofNat 0) 0), (.int (.ofNat 3) 0), (.ref 755), (.bool true), (.int (.ofNat 181) 0), (.ref 756), .none, (.ref 757), (.ref 758), (.ref 759), (.int (.ofNat 1357) 0), (.int (.ofNat 516) 0), (.str z1 1358)]⟩, ⟨[]⟩⟩
noncomputable def o761 : Obj := ⟨(.type PySem.W.SL.s7174869446012820540x8), none, .func (fd (st 149) z271 z271 3 0 (.str z232 1134) (.ref 760)), ⟨[]⟩⟩
noncomputable def o762 : Obj := ⟨(.type PySem.W.SL.s2766695959194262286x5), none, .seq ⟨[]⟩ 0, ⟨[]⟩⟩
noncomputable def o763 : Obj := ⟨.none, none, .fields ⟨[]⟩, ⟨[]⟩⟩
noncomputable def o764 : Obj := ⟨(.type PySem.W.SL.s2766695959194262286x5), none, .seq ⟨[(.str z177 1363), (.str z274 1364), (.str z275 1365), (.str z176 1366), (.str z276 1367)]⟩ 0, ⟨[]⟩⟩
noncomputable def o765 : Obj := ⟨(.type PySem.W.SL.s2766695959194262286x5), none, .seq ⟨[]⟩ 0, ⟨[]⟩⟩
noncomputable def o766 : Obj := ⟨.none, none, .func (fd (st 150) z272 z272 0 0 .none .none), ⟨[]⟩⟩
noncomputable def o767 : Obj := ⟨(.type PySem.W.SL.s5856160107412720595x4), none, .fields ⟨[(.str z272 1360), (.str z272 1361), (.str z1 1362), (.int (.ofNat 524) 0), (.int (.ofNat 1) 0), (.int (.ofNat 0) 0), (.int (.ofNat 0) 0), (.int (.ofNat 3) 0), (.ref 762), (.bool true), (.int (.ofNat 181) 0), (.ref 763), .none, (.ref 764), (.ref 765), (.ref 766), (.int (.ofNat 1368) 0), (.int (.ofNat 524) 0), (.str z1 1369)]⟩, ⟨[]⟩⟩
noncomputable def o768 : Obj := ⟨(.type PySem.W.SL.s7174869446012820540x8), none, .func (fd (st 150) z272 z272 3 0 (.str z232 1134) (.ref 767)), ⟨[]⟩⟩
noncomputable def o769 : Obj := ⟨(.type PySem.W.SL.s2766695959194262286x5), none, .seq ⟨[]⟩ 0, ⟨[]⟩⟩
noncomputable def o770 : Obj := ⟨.none, none, .fields ⟨[]⟩, ⟨[]⟩⟩
noncomputable def o771 : Obj := ⟨(.type PySem.W.SL.s2766695959194262286x5), none, .seq ⟨[(.str z177 1374), (.str z24 1375)]⟩ 0, ⟨[]⟩⟩
noncomputable def o772 : Obj := ⟨(.type PySem.W.SL.s2766695959194262286x5), none, .seq ⟨[]⟩ 0, ⟨[]⟩⟩
noncomputable def o773 : Obj := ⟨.none, none, .func (fd (st 151) z273 z273 0 0 .none .none), ⟨[]⟩⟩
noncomputable def o774 : Obj := ⟨(.type PySem.W.SL.s5856160107412720595x4), none, .fields ⟨[(.str z273 1371), (.str z273 1372), (.str z1 1373), (.int (.ofNat 541) 0), (.int (.ofNat 1) 0), (.int (.ofNat 0) 0), (.int (.ofNat 0) 0), (.int (.ofNat 3) 0), (.ref 769), (.bool true), (.int (.ofNat 181) 0), (.ref 770), .none, (.ref 771), (.ref 772), (.ref 773), (.int (.ofNat 1376) 0), (.int (.ofNat 541) 0), (.str z1 1377)]⟩, ⟨[]⟩⟩
noncomputable def o775 : Obj := ⟨(.type PySem.W.SL.s7174869446012820540x8), none, .func (fd (st 151) z273 z273 3 0 (.str z232 1134) (.ref 774)), ⟨[]⟩⟩
noncomputable def T21 (P : Params) : BT := setAll (insAll (T20 P) 685 [o685, o686, o687, o688, o689, o690, o691, o692, o693, o694, o695, o696, o697, o698, o699, o700, o701, o702, o703, o704, o705, o706, o707, o708, o709, o710, o711, o712, o713, o714, o715, o716, o717, o718, o719, o720, o721, o722, o723, o724, o725, o726, o727, o728, o729, o730, o731, o732, o733, o734, o735, o736, o737, o738, o739, o740, o741, o742, o743, o744, o745, o746, o747, o748, o749, o750, o751, o752, o753, o754, o755, o756, o757, o758, o759, o760, o761, o762, o763, o764, o765, o766, o767, o768, o769, o770, o771, o772, o773, o774, o775]) [(3, (o3v21 P)), (12, o12v21)]
noncomputable def o3v22l (P : Params) : List DictEntry := o3v21l P ++ [ke P z277 1388 (.ref 782), ke P z278 1424 (.ref 799), ke P z279 1431 (.ref 804), ke P z280 1451 (.ref 805), ke P z281 1460 (.ref 812), ke P z282 1466 (.ref 817)]
noncomputable def o3v22 (P : Params) : Obj := ⟨(.type PySem.W.SL.s14018661285674007319x4), none, .dict ⟨(ke P z15 165 (.str z283 1425)) :: o3v22l P⟩ 160, ⟨[]⟩⟩
noncomputable def o12v22f : List Value := o12v21f ++ [(.int (.ofNat 558) 0), (.int (.ofNat 0) 0), (.ref 781), (.int (.ofNat 569) 0), (.int (.ofNat 0) 0), (.ref 788), (.int (.ofNat 582) 0), (.int (.ofNat 0) 0), (.ref 811), (.int (.ofNat 590) 0), (.int (.ofNat 0) 0), (.ref 816)]
noncomputable def o12v22 : Obj := ⟨.none, none, .fields ⟨o12v22f⟩, ⟨[]⟩⟩
noncomputable def o776 : Obj := ⟨(.type PySem.W.SL.s2766695959194262286x5), none, .seq ⟨[]⟩ 0, ⟨[]⟩⟩
noncomputable def o777 : Obj := ⟨.none, none, .fields ⟨[]⟩, ⟨[]⟩⟩
noncomputable def o778 : Obj := ⟨(.type PySem.W.SL.s2766695959194262286x5), none, .seq ⟨[(.str z177 1382), (.str z178 1383), (.str z284 1384), (.str z285 1385)]⟩ 0, ⟨[]⟩⟩
noncomputable def o779 : Obj := ⟨(.type PySem.W.SL.s2766695959194262286x5), none, .seq ⟨[]⟩ 0, ⟨[]⟩⟩
noncomputable def o780 : Obj := ⟨.none, none, .func (fd (st 152) z277 z277 0 0 .none .none), ⟨[]⟩⟩
noncomputable def o781 : Obj := ⟨(.type PySem.W.SL.s5856160107412720595x4), none, .fields ⟨[(.str z277 1379), (.str z277 1380), (.str z1 1381), (.int (.ofNat 558) 0), (.int (.ofNat 1) 0), (.int (.ofNat 0) 0), (.int (.ofNat 0) 0), (.int (.ofNat 3) 0), (.ref 776), (.bool true), (.int (.ofNat 181) 0), (.ref 777), .none, (.ref 778), (.ref 779), (.ref 780), (.int (.ofNat 1386) 0), (.int (.ofNat 558) 0), (.str z1 1387)]⟩, ⟨[]⟩⟩
noncomputable def o782 : Obj := ⟨(.type PySem.W.SL.s7174869446012820540x8), none, .func (fd (st 152) z277 z277 3 0 (.str z232 1134) (.ref 781)), ⟨[]⟩⟩
noncomputable def o783 : Obj := ⟨(.type PySem.W.SL.s2766695959194262286x5), none, .seq ⟨[]⟩ 0, ⟨[]⟩⟩
noncomputable def o784 : Obj := ⟨(.type PySem.W.SL.s11030030927630378310x26), none, .fields ⟨[(.builtin PySem.W.SL.s10062305145149207511x16), (.type PySem.W.SL.s17162191345867700912x4)]⟩, ⟨[]⟩⟩
noncomputable def o785l (P : Params) : List DictEntry := [ke P z18 1400 (.str z278 1399), ke P z19 1402 (.int (.ofNat 569) 1401), ke P z20 1409 (.ref 796), ke P z21 1417 (.ref 797)]
noncomputable def o785 (P : Params) : Obj := ⟨(.type PySem.W.SL.s14018661285674007319x4), none, .dict ⟨(ke P z22 1398 (.str z286 1389)) :: o785l P⟩ 5, ⟨[]⟩⟩
noncomputable def o786 : Obj := ⟨(.type PySem.W.SL.s2766695959194262286x5), none, .seq ⟨[]⟩ 0, ⟨[]⟩⟩
noncomputable def o787 : Obj := ⟨.none, none, .fields ⟨[(.int (.ofNat 571) 0), (.int (.ofNat 4) 0), (.ref 795)]⟩, ⟨[]⟩⟩
noncomputable def o788 : Obj := ⟨(.type PySem.W.SL.s5856160107412720595x4), none, .fields ⟨[(.str z278 1393), (.str z278 1394), (.str z1 1395), (.int (.ofNat 569) 0), (.int (.ofNat 0) 0), (.int (.ofNat 0) 0), (.int (.ofNat 0) 0), (.int (.ofNat 0) 0), (.ref 786), (.bool false), (.int (.ofNat 181) 0), (.ref 787), .none, .none, .none, .none, (.int (.ofNat 1396) 0), (.int (.ofNat 569) 0), (.str z1 1397)]⟩, ⟨[]⟩⟩
noncomputable def o789 : Obj := ⟨(.type PySem.W.SL.s658472552662922059x5), none, .plain, ⟨[some (.ref 788), some (.ref 3), some (.ref 785), none, some (.str z286 1389), none, some (.ref 0)]⟩⟩
noncomputable def o790 : Obj := ⟨(.type PySem.W.SL.s2766695959194262286x5), none, .seq ⟨[]⟩ 0, ⟨[]⟩⟩
noncomputable def o791 : Obj := ⟨.none, none, .fields ⟨[]⟩, ⟨[]⟩⟩
noncomputable def o792 : Obj := ⟨(.type PySem.W.SL.s2766695959194262286x5), none, .seq ⟨[(.str z23 1406)]⟩ 0, ⟨[]⟩⟩
noncomputable def o793 : Obj := ⟨(.type PySem.W.SL.s2766695959194262286x5), none, .seq ⟨[]⟩ 0, ⟨[]⟩⟩
noncomputable def o794 : Obj := ⟨.none, none, .func (fd (me 154 0) z20 z287 0 0 .none .none), ⟨[]⟩⟩
noncomputable def o795 : Obj := ⟨(.type PySem.W.SL.s5856160107412720595x4), none, .fields ⟨[(.str z20 1403), (.str z287 1404), (.str z1 1405), (.int (.ofNat 571) 0), (.int (.ofNat 1) 0), (.int (.ofNat 0) 0), (.int (.ofNat 0) 0), (.int (.ofNat 3) 0), (.ref 790), (.bool true), (.int (.ofNat 181) 0), (.ref 791), .none, (.ref 792), (.ref 793), (.ref 794), (.int (.ofNat 1407) 0), (.int (.ofNat 571) 0), (.str z1 1408)]⟩, ⟨[]⟩⟩
noncomputable def o796 : Obj := ⟨(.type PySem.W.SL.s7174869446012820540x8), none, .func (fd (me 154 0) z20 z287 3 0 (.str z286 1389) (.ref 795)), ⟨[]⟩⟩
noncomputable def o797 : Obj := ⟨(.type PySem.W.SL.s2766695959194262286x5), none, .seq ⟨[(.str z288 1410), (.str z289 1411), (.str z290 1412), (.str z101 1413), (.str z291 1414), (.str z292 1415), (.str z293 1416)]⟩ 0, ⟨[]⟩⟩
noncomputable def o798l (P : Params) : List DictEntry := [ke P z19 1402 (.int (.ofNat 569) 1401), ke P z20 1409 (.ref 796), ke P z21 1417 (.ref 797), ke P z84 1419 (.ref 800), ke P z27 1421 (.ref 801), ke P z5 1422 .none]
noncomputable def o798 (P : Params) : Obj := ⟨(.type PySem.W.SL.s14018661285674007319x4), none, .dict ⟨(ke P z22 1398 (.str z286 1389)) :: o798l P⟩ 4, ⟨[]⟩⟩
noncomputable def o799 : Obj := ⟨(.type PySem.W.SL.s17162191345867700912x4), none, .cls (cd z278 [(.type PySem.W.SL.s2742458400755230247x6)] [(.ref 799), (.type PySem.W.SL.s2742458400755230247x6)] 798 z278 true [] false), ⟨[none, none, some (.str z278 1391), some (.str z278 1399), some (.builtin PySem.W.SL.s11443829558043349243x14), some (.bool true)]⟩⟩
noncomputable def o800 : Obj := ⟨(.type PySem.W.SL.s14755015743595814543x17), none, .fields ⟨[(.str z84 1418), (.ref 799), (.builtin PySem.W.SL.s6511155373996960695x17), (.builtin PySem.W.SL.s12411053484034534018x21)]⟩, ⟨[]⟩⟩
noncomputable def o801 : Obj := ⟨(.type PySem.W.SL.s14755015743595814543x17), none, .fields ⟨[(.str z27 1420), (.ref 799), (.builtin PySem.W.SL.s10220274742760427390x26), .none]⟩, ⟨[]⟩⟩
noncomputable def o802 : Obj := ⟨(.type PySem.W.SL.s4290257624100764138x5), none, .fields ⟨[(.ref 799), (.ref 799), (.ref 799)]⟩, ⟨[]⟩⟩
noncomputable def o803 : Obj := ⟨(.type PySem.W.SL.s11030030927630378310x26), none, .fields ⟨[(.builtin PySem.W.SL.s4860613602091757760x24), (.ref 799)]⟩, ⟨[]⟩⟩
noncomputable def o804 : Obj := ⟨(.type PySem.W.SL.s2766695959194262286x5), none, .seq ⟨[(.str z294 1427), (.str z255 1428), (.str z295 1429), (.str z296 1430), .none]⟩ 0, ⟨[]⟩⟩
noncomputable def o805 : Obj := ⟨(.type PySem.W.SL.s2766695959194262286x5), none, .seq ⟨[(.int (.ofNat 3) 1432), (.int (.ofNat 0) 1433), (.int (.ofNat 1) 1434), (.int (.ofNat 0) 1435), (.int (.ofNat 2) 1436), (.int (.ofNat 5) 1437), (.int (.ofNat 4) 1438), (.int (.ofNat 1) 1439), (.int (.ofNat 6) 1440), (.int (.ofNat 1) 1441), (.int (.ofNat 4) 1442), (.int (.ofNat 8) 1443), (.int (.ofNat 1) 1444), (.int (.ofNat 3) 1445), (.int (.ofNat 2) 1446), (.int (.ofNat 0) 1447), (.int (.ofNat 1) 1448), (.int (.ofNat 1) 1449), (.int (.ofNat 1) 1450)]⟩ 0, ⟨[]⟩⟩
noncomputable def o806 : Obj := ⟨(.type PySem.W.SL.s2766695959194262286x5), none, .seq ⟨[]⟩ 0, ⟨[]⟩⟩
noncomputable def o807 : Obj := ⟨.none, none, .fields ⟨[]⟩, ⟨[]⟩⟩
noncomputable def o808 : Obj := ⟨(.type PySem.W.SL.s2766695959194262286x5), none, .seq ⟨[(.str z296 1455), (.str z121 1456), (.str z240 1457)]⟩ 0, ⟨[]⟩⟩
noncomputable def o809 : Obj := ⟨(.type PySem.W.SL.s2766695959194262286x5), none, .seq ⟨[]⟩ 0, ⟨[]⟩⟩
noncomputable def o810 : Obj := ⟨.none, none, .func (fd (st 158) z281 z281 0 0 .none .none), ⟨[]⟩⟩
noncomputable def o811 : Obj := ⟨(.type PySem.W.SL.s5856160107412720595x4), none, .fields ⟨[(.str z281 1452), (.str z281 1453), (.str z1 1454), (.int (.ofNat 582) 0), (.int (.ofNat 2) 0), (.int (.ofNat 0) 0), (.int (.ofNat 0) 0), (.int (.ofNat 3) 0), (.ref 806), (.bool true), (.int (.ofNat 181) 0), (.ref 807), .none, (.ref 808), (.ref 809), (.ref 810), (.int (.ofNat 1458) 0), (.int (.ofNat 582) 0), (.str z1 1459)]⟩, ⟨[]⟩⟩
noncomputable def o812 : Obj := ⟨(.type PySem.W.SL.s7174869446012820540x8), none, .func (fd (st 158) z281 z281 3 0 (.str z283 1425) (.ref 811)), ⟨[]⟩⟩
noncomputable def o813 : Obj := ⟨(.type PySem.W.SL.s2766695959194262286x5), none, .seq ⟨[]⟩ 0, ⟨[]⟩⟩
noncomputable def o814 : Obj := ⟨.none, none, .fields ⟨[]⟩, ⟨[]⟩⟩
noncomputable def o815 : Obj := ⟨.none, none, .func (fd (st 159) z282 z282 0 0 .none .none), ⟨[]⟩⟩
noncomputable def o816 : Obj := ⟨(.type PySem.W.SL.s5856160107412720595x4), none, .fields ⟨[(.str z282 1461), (.str z282 1462), (.str z1 1463), (.int (.ofNat 590) 0), (.int (.ofNat 2) 0), (.int (.ofNat 0) 0), (.int (.ofNat 0) 0), (.int (.ofNat 3) 0), (.ref 813), (.bool true), (.int (.ofNat 181) 0), (.ref 814), .none, .none, .none, (.ref 815), (.int (.ofNat 1464) 0), (.int (.ofNat 590) 0), (.str z1 1465)]⟩, ⟨[]⟩⟩
noncomputable def o817 : Obj := ⟨(.type PySem.W.SL.s7174869446012820540x8), none, .func (fd (st 159) z282 z282 3 0 (.str z283 1425) (.ref 816)), ⟨[]⟩⟩
noncomputable def T22 (P : Params) : BT := setAll (insAll (T21 P) 776 [o776, o777, o778, o779, o780, o781, o782, o783, o784, (o785 P), o786, o787, o788, o789, o790, o791, o792, o793, o794, o795, o796, o797, (o798 P), o799, o800, o801, o802, o803, o804, o805, o806, o807, o808, o809, o810, o811, o812, o813, o814, o815, o816, o817]) [(3, (o3v22 P)), (12, o12v22)]
noncomputable def o3v23l (P : Params) : List DictEntry := o3v22l P ++ [ke P z297 1475 (.ref 824), ke P z298 1484 (.ref 831), ke P z299 1491 (.ref 838), ke P z300 1499 (.ref 845), ke P z301 1509 (.ref 852), ke P z302 1515 (.ref 857), ke P z303 1530 (.ref 864), ke P z304 1536 (.ref 869), ke P z305 1542 (.ref 874), ke P z306 1551 (.ref 881), ke P z307 1558 (.ref 888), ke P z308 1564 (.ref 893), ke P z309 1572 (.ref 900)]
noncomputable def o3v23 (P : Params) : Obj := ⟨(.type PySem.W.SL.s14018661285674007319x4), none, .dict ⟨(ke P z15 165 (.str z283 1425)) :: o3v23l P⟩ 173, ⟨[]⟩⟩
noncomputable def o12v23f : List Value := o12v22f ++ [(.int (.ofNat 592) 0), (.int (.ofNat 0) 0), (.ref 823), (.int (.ofNat 602) 0), (.int (.ofNat 0) 0), (.ref 830), (.int (.ofNat 630) 0), (.int (.ofNat 0) 0), (.ref 837), (.int (.ofNat 640) 0), (.int (.ofNat 0) 0), (.ref 844), (.int (.ofNat 644) 0), (.int (.ofNat 0) 0), (.ref 851), (.int (.ofNat 649) 0), (.int (.ofNat 0) 0), (.ref 856), (.int (.ofNat 674) 0), (.int (.ofNat 0) 0), (.ref 863), (.int (.ofNat 697) 0), (.int (.ofNat 0) 0), (.ref 868), (.int (.ofNat 715) 0), (.int (.ofNat 0) 0), (.ref 873), (.int (.ofNat 760) 0), (.int (.ofNat 0) 0), (.ref 880), (.int (.ofNat 767) 0), (.int (.ofNat 0) 0), (.ref 887), (.int (.ofNat 769) 0), (.int (.ofNat 0) 0), (.ref 892), (.int (.ofNat 785) 0), (.int (.ofNat 0) 0), (.ref 899)]
noncomputable def o12v23 : Obj := ⟨.none, none, .fields ⟨o12v23f⟩, ⟨[]⟩⟩
noncomputable def o818 : Obj := ⟨(.type PySem.W.SL.s2766695959194262286x5), none, .seq ⟨[]⟩ 0, ⟨[]⟩⟩
noncomputable def o819 : Obj := ⟨.none, none, .fields ⟨[]⟩, ⟨[]⟩⟩
noncomputable def o820 : Obj := ⟨(.type PySem.W.SL.s2766695959194262286x5), none, .seq ⟨[(.str z296 1470), (.str z310 1471), (.str z85 1472)]⟩ 0, ⟨[]⟩⟩
noncomputable def o821 : Obj := ⟨(.type PySem.W.SL.s2766695959194262286x5), none, .seq ⟨[]⟩ 0, ⟨[]⟩⟩
noncomputable def o822 : Obj := ⟨.none, none, .func (fd (st 160) z297 z297 0 0 .none .none), ⟨[]⟩⟩
noncomputable def o823 : Obj := ⟨(.type PySem.W.SL.s5856160107412720595x4), none, .fields ⟨[(.str z297 1467), (.str z297 1468), (.str z1 1469), (.int (.ofNat 592) 0), (.int (.ofNat 2) 0), (.int (.ofNat 0) 0), (.int (.ofNat 0) 0), (.int (.ofNat 3) 0), (.ref 818), (.bool true), (.int (.ofNat 181) 0), (.ref 819), .none, (.ref 820), (.ref 821), (.ref 822), (.int (.ofNat 1473) 0), (.int (.ofNat 592) 0), (.str z1 1474)]⟩, ⟨[]⟩⟩
noncomputable def o824 : Obj := ⟨(.type PySem.W.SL.s7174869446012820540x8), none, .func (fd (st 160) z297 z297 3 0 (.str z283 1425) (.ref 823)), ⟨[]⟩⟩
noncomputable def o825 : Obj := ⟨(.type PySem.W.SL.s2766695959194262286x5), none, .seq ⟨[]⟩ 0, ⟨[]⟩⟩
noncomputable def o826 : Obj := ⟨.none, none, .fields ⟨[]⟩, ⟨[]⟩⟩
noncomputable def o827 : Obj := ⟨(.type PySem.W.SL.s2766695959194262286x5), none, .seq ⟨[(.str z296 1479), (.str z310 1480), (.str z85 1481)]⟩ 0, ⟨[]⟩⟩
noncomputable def o828 : Obj := ⟨(.type PySem.W.SL.s2766695959194262286x5), none, .seq ⟨[]⟩ 0, ⟨[]⟩⟩
noncomputable def o829 : Obj := ⟨.none, none, .func (fd (st 161) z298 z298 0 0 .none .none), ⟨[]⟩⟩
noncomputable def o830 : Obj := ⟨(.type PySem.W.SL.s5856160107412720595x4), none, .fields ⟨[(.str z298 1476), (.str z298 1477), (.str z1 1478), (.int (.ofNat 602) 0), (.int (.ofNat 2) 0), (.int (.ofNat 0) 0), (.int (.ofNat 0) 0), (.int (.ofNat 3) 0), (.ref 825), (.bool true), (.int (.ofNat 181) 0), (.ref 826), .none, (.ref 827), (.ref 828), (.ref 829), (.int (.ofNat 1482) 0), (.int (.ofNat 602) 0), (.str z1 1483)]⟩, ⟨[]⟩⟩
noncomputable def o831 : Obj := ⟨(.type PySem.W.SL.s7174869446012820540x8), none, .func (fd (st 161) z298 z298 3 0 (.str z283 1425) (.ref 830)), ⟨[]⟩⟩
noncomputable def o832 : Obj := ⟨(.type PySem.W.SL.s2766695959194262286x5), none, .seq ⟨[]⟩ 0, ⟨[]⟩⟩
noncomputable def o833 : Obj := ⟨.none, none, .fields ⟨[]⟩, ⟨[]⟩⟩
noncomputable def o834 : Obj := ⟨(.type PySem.W.SL.s2766695959194262286x5), none, .seq ⟨[(.str z259 1488)]⟩ 0, ⟨[]⟩⟩
noncomputable def o835 : Obj := ⟨(.type PySem.W.SL.s2766695959194262286x5), none, .seq ⟨[]⟩ 0, ⟨[]⟩⟩
noncomputable def o836 : Obj := ⟨.none, none, .func (fd (st 162) z299 z299 0 0 .none .none), ⟨[]⟩⟩
noncomputable def o837 : Obj := ⟨(.type PySem.W.SL.s5856160107412720595x4), none, .fields ⟨[(.str z299 1485), (.str z299 1486), (.str z1 1487), (.int (.ofNat 630) 0), (.int (.ofNat 1) 0), (.int (.ofNat 0) 0), (.int (.ofNat 0) 0), (.int (.ofNat 3) 0), (.ref 832), (.bool true), (.int (.ofNat 181) 0), (.ref 833), .none, (.ref 834), (.ref 835), (.ref 836), (.int (.ofNat 1489) 0), (.int (.ofNat 630) 0), (.str z1 1490)]⟩, ⟨[]⟩⟩
noncomputable def o838 : Obj := ⟨(.type PySem.W.SL.s7174869446012820540x8), none, .func (fd (st 162) z299 z299 3 0 (.str z283 1425) (.ref 837)), ⟨[]⟩⟩
noncomputable def o839 : Obj := ⟨(.type PySem.W.SL.s2766695959194262286x5), none, .seq ⟨[]⟩ 0, ⟨[]⟩⟩
noncomputable def o840 : Obj := ⟨.none, none, .fields ⟨[]⟩, ⟨[]⟩⟩
noncomputable def o841 : Obj := ⟨(.type PySem.W.SL.s2766695959194262286x5), none, .seq ⟨[(.str z202 1495), (.str z240 1496)]⟩ 0, ⟨[]⟩⟩
noncomputable def o842 : Obj := ⟨(.type PySem.W.SL.s2766695959194262286x5), none, .seq ⟨[]⟩ 0, ⟨[]⟩⟩
noncomputable def o843 : Obj := ⟨.none, none, .func (fd (st 163) z300 z300 0 0 .none .none), ⟨[]⟩⟩
noncomputable def o844 : Obj := ⟨(.type PySem.W.SL.s5856160107412720595x4), none, .fields ⟨[(.str z300 1492), (.str z300 1493), (.str z1 1494), (.int (.ofNat 640) 0), (.int (.ofNat 2) 0), (.int (.ofNat 0) 0), (.int (.ofNat 0) 0), (.int (.ofNat 3) 0), (.ref 839), (.bool true), (.int (.ofNat 181) 0), (.ref 840), .none, (.ref 841), (.ref 842), (.ref 843), (.int (.ofNat 1497) 0), (.int (.ofNat 640) 0), (.str z1 1498)]⟩, ⟨[]⟩⟩
noncomputable def o845 : Obj := ⟨(.type PySem.W.SL.s7174869446012820540x8), none, .func (fd (st 163) z300 z300 3 0 (.str z283 1425) (.ref 844)), ⟨[]⟩⟩
noncomputable def o846 : Obj := ⟨(.type PySem.W.SL.s2766695959194262286x5), none, .seq ⟨[]⟩ 0, ⟨[]⟩⟩
noncomputable def o847 : Obj := ⟨.none, none, .fields ⟨[]⟩, ⟨[]⟩⟩
noncomputable def o848 : Obj := ⟨(.type PySem.W.SL.s2766695959194262286x5), none, .seq ⟨[(.str z311 1503), (.str z312 1504), (.str z202 1505), (.str z259 1506)]⟩ 0, ⟨[]⟩⟩
noncomputable def o849 : Obj := ⟨(.type PySem.W.SL.s2766695959194262286x5), none, .seq ⟨[]⟩ 0, ⟨[]⟩⟩
noncomputable def o850 : Obj := ⟨.none, none, .func (fd (st 164) z301 z301 0 0 .none .none), ⟨[]⟩⟩
noncomputable def o851 : Obj := ⟨(.type PySem.W.SL.s5856160107412720595x4), none, .fields ⟨[(.str z301 1500), (.str z301 1501), (.str z1 1502), (.int (.ofNat 644) 0), (.int (.ofNat 2) 0), (.int (.ofNat 0) 0), (.int (.ofNat 0) 0), (.int (.ofNat 3) 0), (.ref 846), (.bool true), (.int (.ofNat 181) 0), (.ref 847), .none, (.ref 848), (.ref 849), (.ref 850), (.int (.ofNat 1507) 0), (.int (.ofNat 644) 0), (.str z1 1508)]⟩, ⟨[]⟩⟩
noncomputable def o852 : Obj := ⟨(.type PySem.W.SL.s7174869446012820540x8), none, .func (fd (st 164) z301 z301 3 0 (.str z283 1425) (.ref 851)), ⟨[]⟩⟩
noncomputable def o853 : Obj := ⟨(.type PySem.W.SL.s2766695959194262286x5), none, .seq ⟨[]⟩ 0, ⟨[]⟩⟩
noncomputable def o854 : Obj := ⟨.none, none, .fields ⟨[]⟩, ⟨[]⟩⟩
noncomputable def o855 : Obj := ⟨.none, none, .func (fd (st 165) z302 z302 0 0 .none .none), ⟨[]⟩⟩
noncomputable def o856 : Obj := ⟨(.type PySem.W.SL.s5856160107412720595x4), none, .fields ⟨[(.str z302 1510), (.str z302 1511), (.str z1 1512), (.int (.ofNat 649) 0), (.int (.ofNat 2) 0), (.int (.ofNat 0) 0), (.int (.ofNat 0) 0), (.int (.ofNat 3) 0), (.ref 853), (.bool true), (.int (.ofNat 181) 0), (.ref 854), .none, .none, .none, (.ref 855), (.int (.ofNat 1513) 0), (.int (.ofNat 649) 0), (.str z1 1514)]⟩, ⟨[]⟩⟩
noncomputable def o857 : Obj := ⟨(.type PySem.W.SL.s7174869446012820540x8), none, .func (fd (st 165) z302 z302 3 0 (.str z283 1425) (.ref 856)), ⟨[]⟩⟩
noncomputable def o858 : Obj := ⟨(.type PySem.W.SL.s2766695959194262286x5), none, .seq ⟨[]⟩ 0, ⟨[]⟩⟩
noncomputable def o859 : Obj := ⟨.none, none, .fields ⟨[]⟩, ⟨[]⟩⟩
noncomputable def o860 : Obj := ⟨(.type PySem.W.SL.s2766695959194262286x5), none, .seq ⟨[(.str z313 1519), (.str z314 1520), (.str z315 1521), (.str z316 1522), (.str z317 1523), (.str z318 1524), (.str z319 1525), (.str z320 1526), (.str z321 1527)]⟩ 0, ⟨[]⟩⟩
noncomputable def o861 : Obj := ⟨(.type PySem.W.SL.s2766695959194262286x5), none, .seq ⟨[]⟩ 0, ⟨[]⟩⟩
noncomputable def o862 : Obj := ⟨.none, none, .func (fd (st 166) z303 z303 0 0 .none .none), ⟨[]⟩⟩
noncomputable def o863 : Obj := ⟨(.type PySem.W.SL.s5856160107412720595x4), none, .fields ⟨[(.str z303 1516), (.str z303 1517), (.str z1 1518), (.int (.ofNat 674) 0), (.int (.ofNat 1) 0), (.int (.ofNat 0) 0), (.int (.ofNat 0) 0), (.int (.ofNat 3) 0), (.ref 858), (.bool true), (.int (.ofNat 181) 0), (.ref 859), .none, (.ref 860), (.ref 861), (.ref 862), (.int (.ofNat 1528) 0), (.int (.ofNat 674) 0), (.str z1 1529)]⟩, ⟨[]⟩⟩
noncomputable def o864 : Obj := ⟨(.type PySem.W.SL.s7174869446012820540x8), none, .func (fd (st 166) z303 z303 3 0 (.str z283 1425) (.ref 863)), ⟨[]⟩⟩
noncomputable def o865 : Obj := ⟨(.type PySem.W.SL.s2766695959194262286x5), none, .seq ⟨[]⟩ 0, ⟨[]⟩⟩
noncomputable def o866 : Obj := ⟨.none, none, .fields ⟨[]⟩, ⟨[]⟩⟩
noncomputable def o867 : Obj := ⟨.none, none, .func (fd (st 167) z304 z304 0 0 .none .none), ⟨[]⟩⟩
noncomputable def o868 : Obj := ⟨(.type PySem.W.SL.s5856160107412720595x4), none, .fields ⟨[(.str z304 1531), (.str z304 1532), (.str z1 1533), (.int (.ofNat 697) 0), (.int (.ofNat 2) 0), (.int (.ofNat 0) 0), (.int (.ofNat 0) 0), (.int (.ofNat 3) 0), (.ref 865), (.bool true), (.int (.ofNat 181) 0), (.ref 866), .none, .none, .none, (.ref 867), (.int (.ofNat 1534) 0), (.int (.ofNat 697) 0), (.str z1 1535)]⟩, ⟨[]⟩⟩
noncomputable def o869 : Obj := ⟨(.type PySem.W.SL.s7174869446012820540x8), none, .func (fd (st 167) z304 z304 3 0 (.str z283 1425) (.ref 868)), ⟨[]⟩⟩
noncomputable def o870 : Obj := ⟨(.type PySem.W.SL.s2766695959194262286x5), none, .seq ⟨[]⟩ 0, ⟨[]⟩⟩
noncomputable def o871 : Obj := ⟨.none, none, .fields ⟨[]⟩, ⟨[]⟩⟩
noncomputable def o872 : Obj := ⟨.none, none, .func (fd (st 168) z305 z305 0 0 .none .none), ⟨[]⟩⟩
noncomputable def o873 : Obj := ⟨(.type PySem.W.SL.s5856160107412720595x4), none, .fields ⟨[(.str z305 1537), (.str z305 1538), (.str z1 1539), (.int (.ofNat 715) 0), (.int (.ofNat 2) 0), (.int (.ofNat 0) 0), (.int (.ofNat 0) 0), (.int (.ofNat 3) 0), (.ref 870), (.bool true), (.int (.ofNat 181) 0), (.ref 871), .none, .none, .none, (.ref 872), (.int (.ofNat 1540) 0), (.int (.ofNat 715) 0), (.str z1 1541)]⟩, ⟨[]⟩⟩
noncomputable def o874 : Obj := ⟨(.type PySem.W.SL.s7174869446012820540x8), none, .func (fd (st 168) z305 z305 3 0 (.str z283 1425) (.ref 873)), ⟨[]⟩⟩
noncomputable def o875 : Obj := ⟨(.type PySem.W.SL.s2766695959194262286x5), none, .seq ⟨[]⟩ 0, ⟨[]⟩⟩
noncomputable def o876 : Obj := ⟨.none, none, .fields ⟨[]⟩, ⟨[]⟩⟩
noncomputable def o877 : Obj := ⟨(.type PySem.W.SL.s2766695959194262286x5), none, .seq ⟨[(.str z177 1546), (.str z315 1547), (.str z285 1548)]⟩ 0, ⟨[]⟩⟩
noncomputable def o878 : Obj := ⟨(.type PySem.W.SL.s2766695959194262286x5), none, .seq ⟨[]⟩ 0, ⟨[]⟩⟩
noncomputable def o879 : Obj := ⟨.none, none, .func (fd (st 169) z306 z306 0 0 .none .none), ⟨[]⟩⟩
noncomputable def o880 : Obj := ⟨(.type PySem.W.SL.s5856160107412720595x4), none, .fields ⟨[(.str z306 1543), (.str z306 1544), (.str z1 1545), (.int (.ofNat 760) 0), (.int (.ofNat 1) 0), (.int (.ofNat 0) 0), (.int (.ofNat 0) 0), (.int (.ofNat 3) 0), (.ref 875), (.bool true), (.int (.ofNat 181) 0), (.ref 876), .none, (.ref 877), (.ref 878), (.ref 879), (.int (.ofNat 1549) 0), (.int (.ofNat 760) 0), (.str z1 1550)]⟩, ⟨[]⟩⟩
noncomputable def o881 : Obj := ⟨(.type PySem.W.SL.s7174869446012820540x8), none, .func (fd (st 169) z306 z306 3 0 (.str z283 1425) (.ref 880)), ⟨[]⟩⟩
noncomputable def o882 : Obj := ⟨(.type PySem.W.SL.s2766695959194262286x5), none, .seq ⟨[]⟩ 0, ⟨[]⟩⟩
noncomputable def o883 : Obj := ⟨.none, none, .fields ⟨[]⟩, ⟨[]⟩⟩
noncomputable def o884 : Obj := ⟨(.type PySem.W.SL.s2766695959194262286x5), none, .seq ⟨[(.str z177 1555)]⟩ 0, ⟨[]⟩⟩
noncomputable def o885 : Obj := ⟨(.type PySem.W.SL.s2766695959194262286x5), none, .seq ⟨[]⟩ 0, ⟨[]⟩⟩
noncomputable def o886 : Obj := ⟨.none, none, .func (fd (st 170) z307 z307 0 0 .none .none), ⟨[]⟩⟩
noncomputable def o887 : Obj := ⟨(.type PySem.W.SL.s5856160107412720595x4), none, .fields ⟨[(.str z307 1552), (.str z307 1553), (.str z1 1554), (.int (.ofNat 767) 0), (.int (.ofNat 1) 0), (.int (.ofNat 0) 0), (.int (.ofNat 0) 0), (.int (.ofNat 3) 0), (.ref 882), (.bool true), (.int (.ofNat 181) 0), (.ref 883), .none, (.ref 884), (.ref 885), (.ref 886), (.int (.ofNat 1556) 0), (.int (.ofNat 767) 0), (.str z1 1557)]⟩, ⟨[]⟩⟩
noncomputable def o888 : Obj := ⟨(.type PySem.W.SL.s7174869446012820540x8), none, .func (fd (st 170) z307 z307 3 0 (.str z283 1425) (.ref 887)), ⟨[]⟩⟩
noncomputable def o889 : Obj := ⟨(.type PySem.W.SL.s2766695959194262286x5), none, .seq ⟨[]⟩ 0, ⟨[]⟩⟩
noncomputable def o890 : Obj := ⟨.none, none, .fields ⟨[]⟩, ⟨[]⟩⟩
noncomputable def o891 : Obj := ⟨.none, none, .func (fd (st 171) z308 z308 0 0 .none .none), ⟨[]⟩⟩
noncomputable def o892 : Obj := ⟨(.type PySem.W.SL.s5856160107412720595x4), none, .fields ⟨[(.str z308 1559), (.str z308 1560), (.str z1 1561), (.int (.ofNat 769) 0), (.int (.ofNat 2) 0), (.int (.ofNat 0) 0), (.int (.ofNat 0) 0), (.int (.ofNat 3) 0), (.ref 889), (.bool true), (.int (.ofNat 181) 0), (.ref 890), .none, .none, .none, (.ref 891), (.int (.ofNat 1562) 0), (.int (.ofNat 769) 0), (.str z1 1563)]⟩, ⟨[]⟩⟩
noncomputable def o893 : Obj := ⟨(.type PySem.W.SL.s7174869446012820540x8), none, .func (fd (st 171) z308 z308 3 0 (.str z283 1425) (.ref 892)), ⟨[]⟩⟩
noncomputable def o894 : Obj := ⟨(.type PySem.W.SL.s2766695959194262286x5), none, .seq ⟨[]⟩ 0, ⟨[]⟩⟩
noncomputable def o895 : Obj := ⟨.none, none, .fields ⟨[]⟩, ⟨[]⟩⟩
noncomputable def o896 : Obj := ⟨(.type PySem.W.SL.s2766695959194262286x5), none, .seq ⟨[(.str z296 1568), (.str z82 1569)]⟩ 0, ⟨[]⟩⟩
noncomputable def o897 : Obj := ⟨(.type PySem.W.SL.s2766695959194262286x5), none, .seq ⟨[]⟩ 0, ⟨[]⟩⟩
noncomputable def o898 : Obj := ⟨.none, none, .func (fd (st 172) z309 z309 0 0 .none .none), ⟨[]⟩⟩
noncomputable def o899 : Obj := ⟨(.type PySem.W.SL.s5856160107412720595x4), none, .fields ⟨[(.str z309 1565), (.str z309 1566), (.str z1 1567), (.int (.ofNat 785) 0), (.int (.ofNat 1) 0), (.int (.ofNat 0) 0), (.int (.ofNat 0) 0), (.int (.ofNat 3) 0), (.ref 894), (.bool true), (.int (.ofNat 181) 0), (.ref 895), .none, (.ref 896), (.ref 897), (.ref 898), (.int (.ofNat 1570) 0), (.int (.ofNat 785) 0), (.str z1 1571)]⟩, ⟨[]⟩⟩
noncomputable def o900 : Obj := ⟨(.type PySem.W.SL.s7174869446012820540x8), none, .func (fd (st 172) z309 z309 3 0 (.str z283 1425) (.ref 899)), ⟨[]⟩⟩
noncomputable def T23 (P : Params) : BT := setAll (insAll (T22 P) 818 [o818, o819, o820, o821, o822, o823, o824, o825, o826, o827, o828, o829, o830, o831, o832, o833, o834, o835, o836, o837, o838, o839, o840, o841, o842, o843, o844, o845, o846, o847, o848, o849, o850, o851, o852, o853, o854, o855, o856, o857, o858, o859, o860, o861, o862, o863, o864, o865, o866, o867, o868, o869, o870, o871, o872, o873, o874, o875, o876, o877, o878, o879, o880, o881, o882, o883, o884, o885, o886, o887, o888, o889, o890, o891, o892, o893, o894, o895, o896, o897, o898, o899, o900]) [(3, (o3v23 P)), (12, o12v23)]
noncomputable def o3v24l (P : Params) : List DictEntry := o3v23l P ++ [ke P z322 1591 (.ref 907)]
noncomputable def o3v24 (P : Params) : Obj := ⟨(.type PySem.W.SL.s14018661285674007319x4), none, .dict ⟨(ke P z15 165 (.str z283 1425)) :: o3v24l P⟩ 174, ⟨[]⟩⟩
noncomputable def o12v24f : List Value := o12v23f ++ [(.int (.ofNat 796) 0), (.int (.ofNat 0) 0), (.ref 906)]
noncomputable def o12v24 : Obj := ⟨.none, none, .fields ⟨o12v24f⟩, ⟨[]⟩⟩
noncomputable def o901 : Obj := ⟨(.type PySem.W.SL.s2766695959194262286x5), none, .seq ⟨[]⟩ 0, ⟨[]⟩⟩
noncomputable def o902 : Obj := ⟨.none, none, .fields ⟨[]⟩, ⟨[]⟩⟩
noncomputable def o903 : Obj := ⟨(.type PySem.W.SL.s2766695959194262286x5), none, .seq ⟨[(.str z323 1576), (.str z296 1577), (.str z324 1578), (.str z82 1579), (.str z194 1580), (.str z101 1581), (.str z17 1582), (.str z181 1583), (.str z177 1584), (.str z325 1585), (.str z326 1586), (.str z311 1587), (.str z327 1588)]⟩ 0, ⟨[]⟩⟩
noncomputable def o904 : Obj := ⟨(.type PySem.W.SL.s2766695959194262286x5), none, .seq ⟨[]⟩ 0, ⟨[]⟩⟩
noncomputable def o905 : Obj := ⟨.none, none, .func (fd (st 173) z322 z322 0 0 .none .none), ⟨[]⟩⟩
noncomputable def o906 : Obj := ⟨(.type PySem.W.SL.s5856160107412720595x4), none, .fields ⟨[(.str z322 1573), (.str z322 1574), (.str z1 1575), (.int (.ofNat 796) 0), (.int (.ofNat 1) 0), (.int (.ofNat 0) 0), (.int (.ofNat 0) 0), (.int (.ofNat 3) 0), (.ref 901), (.bool true), (.int (.ofNat 181) 0), (.ref 902), .none, (.ref 903), (.ref 904), (.ref 905), (.int (.ofNat 1589) 0), (.int (.ofNat 796) 0), (.str z1 1590)]⟩, ⟨[]⟩⟩
noncomputable def o907 : Obj := ⟨(.type PySem.W.SL.s7174869446012820540x8), none, .func (fd (st 173) z322 z322 3 0 (.str z283 1425) (.ref 906)), ⟨[]⟩⟩
noncomputable def T24 (P : Params) : BT := setAll (insAll (T23 P) 901 [o901, o902, o903, o904, o905, o906, o907]) [(3, (o3v24 P)), (12, o12v24)]
noncomputable def env0 : Env := { scope := pw.main.scope, locals := mainNs, globals := mainNs, cells := [], code := .ref 13, frame := some 14 }
noncomputable def cE : Code := .body (behindTheImports pw) env0
noncomputable def fp : Pos := ⟨0, 0, 0, 0⟩
noncomputable def take : Nat → List Stmt → List Stmt
  | 0, _ => []
  | _, [] => []
  | n + 1, x :: r => x :: take n r
noncomputable def drop : Nat → List Stmt → List Stmt
  | 0, l => l
  | _, [] => []
  | n + 1, _ :: r => drop n r
noncomputable abbrev d0 : Drawn := ⟨0, 0, 0, 0⟩
noncomputable def tS (T : BT) (n toks : Nat) (os : OsState) : SharedT := ⟨T, n, {}, #[], d0, toks, os⟩
noncomputable abbrev twSeg := @PySem.W.Fast.tw10110043849684766642
noncomputable abbrev twTab := PySem.W.Fast.tw14364793385576792824
noncomputable abbrev twExecs := @PySem.W.Fast.tw12563942051412417395
noncomputable def pcs (l : List Stmt) (p : Pos) : Thread := ⟨(twExecs l env0).wrap doneF deadEnd id id, cE, p, [topFrame fp]⟩
theorem pcs_eq (l : List Stmt) (p : Pos) : piecesOf l env0 cE p [topFrame fp] = pcs l p := by
  unfold pcs piecesOf twExecs
  rw [← PySem.W.Fast.te12563942051412417395]
noncomputable def s1 : List Stmt := take 3 (drop 0 (behindTheImports pw))
theorem g1 (w : World) (os : OsState) : twSeg twTab pw w 11 (some (.ref 6)) 1 269 (tS (T0 (w).params) 15 187 os) (pcs s1 ⟨0, 0, 0, 0⟩) = some (.next, tS (T1 (w).params) 42 227 os, cE, ⟨5, 0, 9, 20⟩) := by kernel_rfl
noncomputable def s2 : List Stmt := take 1 (drop 3 (behindTheImports pw))
theorem g2 (w : World) (os : OsState) : twSeg twTab pw w 11 (some (.ref 6)) 1 214 (tS (T1 (w).params) 42 227 os) (pcs s2 ⟨5, 0, 9, 20⟩) = some (.next, tS (T2 (w).params) 54 243 os, cE, ⟨10, 0, 11, 8⟩) := by kernel_rfl
noncomputable def s3 : List Stmt := take 21 (drop 4 (behindTheImports pw))
theorem g3 (w : World) (os : OsState) : twSeg twTab pw w 11 (some (.ref 6)) 1 394 (tS (T2 (w).params) 54 243 os) (pcs s3 ⟨10, 0, 11, 8⟩) = some (.next, tS (T3 (w).params) 66 299 os, cE, ⟨33, 0, 33, 7⟩) := by kernel_rfl
noncomputable def s4 : List Stmt := take 11 (drop 25 (behindTheImports pw))
theorem g4 (w : World) (os : OsState) : twSeg twTab pw w 11 (some (.ref 6)) 1 100 (tS (T3 (w).params) 66 299 os) (pcs s4 ⟨33, 0, 33, 7⟩) = some (.next, tS (T4 (w).params) 66 321 os, cE, ⟨44, 0, 44, 13⟩) := by kernel_rfl
noncomputable def s5 : List Stmt := take 1 (drop 36 (behindTheImports pw))
theorem g5f (w : World) (os : OsState) : twSeg twTab pw (w.withFollow "special-get-raises" false) 11 (some (.ref 6)) 1 207 (tS (T4 ((w.withFollow "special-get-raises" false)).params) 66 321 os) (pcs s5 ⟨44, 0, 44, 13⟩) = some (.next, tS (T5 ((w.withFollow "special-get-raises" false)).params) 67 350 os, cE, ⟨45, 0, 45, 8⟩) := by kernel_rfl
theorem g5t (w : World) (os : OsState) : twSeg twTab pw (w.withFollow "special-get-raises" true) 11 (some (.ref 6)) 1 207 (tS (T4 ((w.withFollow "special-get-raises" true)).params) 66 321 os) (pcs s5 ⟨44, 0, 44, 13⟩) = some (.next, tS (T5 ((w.withFollow "special-get-raises" true)).params) 67 350 os, cE, ⟨45, 0, 45, 8⟩) := by kernel_rfl
theorem g5 (w : World) (os : OsState) : twSeg twTab pw w 11 (some (.ref 6)) 1 207 (tS (T4 (w).params) 66 321 os) (pcs s5 ⟨44, 0, 44, 13⟩) = some (.next, tS (T5 (w).params) 67 350 os, cE, ⟨45, 0, 45, 8⟩) := byRow2 "special-get-raises" (P := fun w => twSeg twTab pw w 11 (some (.ref 6)) 1 207 (tS (T4 (w).params) 66 321 os) (pcs s5 ⟨44, 0, 44, 13⟩) = some (.next, tS (T5 (w).params) 67 350 os, cE, ⟨45, 0, 45, 8⟩)) (fun w => g5f w os) (fun w => g5t w os) w
noncomputable def s6 : List Stmt := take 1 (drop 37 (behindTheImports pw))
theorem g6f (w : World) (os : OsState) : twSeg twTab pw (w.withFollow "special-get-raises" false) 11 (some (.ref 6)) 1 223 (tS (T5 ((w.withFollow "special-get-raises" false)).params) 67 350 os) (pcs s6 ⟨45, 0, 45, 8⟩) = some (.next, tS (T6 ((w.withFollow "special-get-raises" false)).params) 79 389 os, cE, ⟨46, 0, 46, 10⟩) := by kernel_rfl
theorem g6t (w : World) (os : OsState) : twSeg twTab pw (w.withFollow "special-get-raises" true) 11 (some (.ref 6)) 1 223 (tS (T5 ((w.withFollow "special-get-raises" true)).params) 67 350 os) (pcs s6 ⟨45, 0, 45, 8⟩) = some (.next, tS (T6 ((w.withFollow "special-get-raises" true)).params) 79 389 os, cE, ⟨46, 0, 46, 10⟩) := by kernel_rfl
theorem g6 (w : World) (os : OsState) : twSeg twTab pw w 11 (some (.ref 6)) 1 223 (tS (T5 (w).params) 67 350 os) (pcs s6 ⟨45, 0, 45, 8⟩) = some (.next, tS (T6 (w).params) 79 389 os, cE, ⟨46, 0, 46, 10⟩) := byRow2 "special-get-raises" (P := fun w => twSeg twTab pw w 11 (some (.ref 6)) 1 223 (tS (T5 (w).params) 67 350 os) (pcs s6 ⟨45, 0, 45, 8⟩) = some (.next, tS (T6 (w).params) 79 389 os, cE, ⟨46, 0, 46, 10⟩)) (fun w => g6f w os) (fun w => g6t w os) w
noncomputable def s7 : List Stmt := take 4 (drop 38 (behindTheImports pw))
theorem g7 (w : World) (os : OsState) : twSeg twTab pw w 11 (some (.ref 6)) 1 387 (tS (T6 (w).params) 79 389 os) (pcs s7 ⟨46, 0, 46, 10⟩) = some (.next, tS (T7 (w).params) 135 468 os, cE, ⟨109, 0, 114, 12⟩) := by kernel_rfl
noncomputable def s8 : List Stmt := take 15 (drop 42 (behindTheImports pw))
theorem g8 (w : World) (os : OsState) : twSeg twTab pw w 11 (some (.ref 6)) 1 393 (tS (T7 (w).params) 135 468 os) (pcs s8 ⟨109, 0, 114, 12⟩) = some (.next, tS (T8 (w).params) 219 575 os, cE, ⟨179, 0, 179, 8⟩) := by kernel_rfl
noncomputable def s9 : List Stmt := take 10 (drop 57 (behindTheImports pw))
theorem g9 (w : World) (os : OsState) : twSeg twTab pw w 11 (some (.ref 6)) 1 397 (tS (T8 (w).params) 219 575 os) (pcs s9 ⟨179, 0, 179, 8⟩) = some (.next, tS (T9 (w).params) 259 645 os, cE, ⟨201, 0, 201, 8⟩) := by kernel_rfl
noncomputable def s10 : List Stmt := take 33 (drop 67 (behindTheImports pw))
theorem g10 (w : World) (os : OsState) : twSeg twTab pw w 11 (some (.ref 6)) 1 298 (tS (T9 (w).params) 259 645 os) (pcs s10 ⟨201, 0, 201, 8⟩) = some (.next, tS (T10 (w).params) 259 711 os, cE, ⟨234, 0, 234, 6⟩) := by kernel_rfl
noncomputable def s11 : List Stmt := take 1 (drop 100 (behindTheImports pw))
theorem g11f (w : World) (os : OsState) : twSeg twTab pw (w.withFollow "special-get-raises" false) 11 (some (.ref 6)) 1 709 (tS (T10 ((w.withFollow "special-get-raises" false)).params) 259 711 os) (pcs s11 ⟨234, 0, 234, 6⟩) = some (.next, tS (T11 ((w.withFollow "special-get-raises" false)).params) 330 781 os, cE, ⟨235, 0, 235, 10⟩) := by kernel_rfl
theorem g11t (w : World) (os : OsState) : twSeg twTab pw (w.withFollow "special-get-raises" true) 11 (some (.ref 6)) 1 709 (tS (T10 ((w.withFollow "special-get-raises" true)).params) 259 711 os) (pcs s11 ⟨234, 0, 234, 6⟩) = some (.next, tS (T11 ((w.withFollow "special-get-raises" true)).params) 330 781 os, cE, ⟨235, 0, 235, 10⟩) := by kernel_rfl
theorem g11 (w : World) (os : OsState) : twSeg twTab pw w 11 (some (.ref 6)) 1 709 (tS (T10 (w).params) 259 711 os) (pcs s11 ⟨234, 0, 234, 6⟩) = some (.next, tS (T11 (w).params) 330 781 os, cE, ⟨235, 0, 235, 10⟩) := byRow2 "special-get-raises" (P := fun w => twSeg twTab pw w 11 (some (.ref 6)) 1 709 (tS (T10 (w).params) 259 711 os) (pcs s11 ⟨234, 0, 234, 6⟩) = some (.next, tS (T11 (w).params) 330 781 os, cE, ⟨235, 0, 235, 10⟩)) (fun w => g11f w os) (fun w => g11t w os) w
noncomputable def s12 : List Stmt := take 5 (drop 101 (behindTheImports pw))
theorem g12 (w : World) (os : OsState) : twSeg twTab pw w 11 (some (.ref 6)) 1 339 (tS (T11 (w).params) 330 781 os) (pcs s12 ⟨235, 0, 235, 10⟩) = some (.next, tS (T12 (w).params) 372 853 os, cE, ⟨271, 0, 271, 8⟩) := by kernel_rfl
noncomputable def s13 : List Stmt := take 1 (drop 106 (behindTheImports pw))
theorem g13 (w : World) (os : OsState) : twSeg twTab pw w 11 (some (.ref 6)) 1 223 (tS (T12 (w).params) 372 853 os) (pcs s13 ⟨271, 0, 271, 8⟩) = some (.next, tS (T13 (w).params) 393 882 os, cE, ⟨272, 0, 275, 31⟩) := by kernel_rfl
noncomputable def s14 : List Stmt := take 1 (drop 107 (behindTheImports pw))
theorem g14 (w : World) (os : OsState) : twSeg twTab pw w 11 (some (.ref 6)) 1 256 (tS (T13 (w).params) 393 882 os) (pcs s14 ⟨272, 0, 275, 31⟩) = some (.next, tS (T14 (w).params) 421 920 os, cE, ⟨276, 0, 282, 33⟩) := by kernel_rfl
noncomputable def s15 : List Stmt := take 1 (drop 108 (behindTheImports pw))
theorem g15 (w : World) (os : OsState) : twSeg twTab pw w 11 (some (.ref 6)) 1 424 (tS (T14 (w).params) 421 920 os) (pcs s15 ⟨276, 0, 282, 33⟩) = some (.next, tS (T15 (w).params) 484 1006 os, cE, ⟨283, 0, 313, 16⟩) := by kernel_rfl
noncomputable def s16 : List Stmt := take 7 (drop 109 (behindTheImports pw))
theorem g16 (w : World) (os : OsState) : twSeg twTab pw w 11 (some (.ref 6)) 1 186 (tS (T15 (w).params) 484 1006 os) (pcs s16 ⟨283, 0, 313, 16⟩) = some (.next, tS (T16 (w).params) 524 1054 os, cE, ⟨335, 0, 338, 12⟩) := by kernel_rfl
noncomputable def s17 : List Stmt := take 1 (drop 116 (behindTheImports pw))
theorem g17 (w : World) (os : OsState) : twSeg twTab pw w 11 (some (.ref 6)) 1 241 (tS (T16 (w).params) 524 1054 os) (pcs s17 ⟨335, 0, 338, 12⟩) = some (.next, tS (T17 (w).params) 541 1076 os, cE, ⟨339, 0, 348, 20⟩) := by kernel_rfl
noncomputable def s18 : List Stmt := take 1 (drop 117 (behindTheImports pw))
theorem g18 (w : World) (os : OsState) : twSeg twTab pw w 11 (some (.ref 6)) 1 247 (tS (T17 (w).params) 541 1076 os) (pcs s18 ⟨339, 0, 348, 20⟩) = some (.next, tS (T18 (w).params) 560 1102 os, cE, ⟨349, 0, 355, 47⟩) := by kernel_rfl
noncomputable def s19 : List Stmt := take 9 (drop 118 (behindTheImports pw))
theorem g19 (w : World) (os : OsState) : twSeg twTab pw w 11 (some (.ref 6)) 1 391 (tS (T18 (w).params) 560 1102 os) (pcs s19 ⟨349, 0, 355, 47⟩) = some (.next, tS (T19 (w).params) 601 1169 os, cE, ⟨372, 0, 374, 33⟩) := by kernel_rfl
noncomputable def s20 : List Stmt := take 12 (drop 127 (behindTheImports pw))
theorem g20 (w : World) (os : OsState) : twSeg twTab pw w 11 (some (.ref 6)) 1 376 (tS (T19 (w).params) 601 1169 os) (pcs s20 ⟨372, 0, 374, 33⟩) = some (.next, tS (T20 (w).params) 685 1280 os, cE, ⟨451, 0, 454, 35⟩) := by kernel_rfl
noncomputable def s21 : List Stmt := take 13 (drop 139 (behindTheImports pw))
theorem g21 (w : World) (os : OsState) : twSeg twTab pw w 11 (some (.ref 6)) 1 386 (tS (T20 (w).params) 685 1280 os) (pcs s21 ⟨451, 0, 454, 35⟩) = some (.next, tS (T21 (w).params) 776 1379 os, cE, ⟨541, 0, 557, 12⟩) := by kernel_rfl
noncomputable def s22 : List Stmt := take 8 (drop 152 (behindTheImports pw))
theorem g22 (w : World) (os : OsState) : twSeg twTab pw w 11 (some (.ref 6)) 1 378 (tS (T21 (w).params) 776 1379 os) (pcs s22 ⟨541, 0, 557, 12⟩) = some (.next, tS (T22 (w).params) 818 1467 os, cE, ⟨590, 0, 591, 84⟩) := by kernel_rfl
noncomputable def s23 : List Stmt := take 13 (drop 160 (behindTheImports pw))
theorem g23 (w : World) (os : OsState) : twSeg twTab pw w 11 (some (.ref 6)) 1 385 (tS (T22 (w).params) 818 1467 os) (pcs s23 ⟨590, 0, 591, 84⟩) = some (.next, tS (T23 (w).params) 901 1573 os, cE, ⟨785, 0, 795, 15⟩) := by kernel_rfl
noncomputable def s24 : List Stmt := take 1 (drop 173 (behindTheImports pw))
theorem g24 (w : World) (os : OsState) : twSeg twTab pw w 11 (some (.ref 6)) 1 42 (tS (T23 (w).params) 901 1573 os) (pcs s24 ⟨785, 0, 795, 15⟩) = some (.next, tS (T24 (w).params) 908 1592 os, cE, ⟨796, 0, 822, 16⟩) := by kernel_rfl
end Mine.H
end
noncomputable section
namespace Mine.H
open PySem PySem.W PyProof.Rows
noncomputable abbrev twGo := @PySem.W.Fast.tw15667345088766844465
noncomputable abbrev twDen := @PySem.W.Fast.tw11892475500146522536
noncomputable abbrev twSeen := @PySem.W.Fast.tw4187177175401517315
noncomputable def S0 (w : World) (os : OsState) : Shared := ⟨boot_heap w.params, Array.mk [], boot_drawn, boot_toks, os⟩
theorem pre' (w : World) (os : OsState) : twGo twTab pw w 11 (some (.ref 6)) 12 (S0 w os) (topStub pw) = some ((tS (T0 w.params) 15 187 os).abs, ⟨twDen twTab cE, cE, ⟨0, 0, 0, 0⟩, [topFrame fp]⟩) := by kernel_rfl
theorem pre (w : World) (os : OsState) : topGo treeTable pw w 11 (some (.ref 6)) 12 (S0 w os) (topStub pw) = some ((tS (T0 w.params) 15 187 os).abs, ⟨denote treeTable cE, cE, ⟨0, 0, 0, 0⟩, [topFrame fp]⟩) := by
  have h := pre' w os
  unfold twGo twDen twTab at h
  rw [← PySem.W.Fast.te15667345088766844465, ← PySem.W.Fast.te11892475500146522536, ← PySem.W.Fast.te14364793385576792824] at h
  exact h
theorem seg_of {w : World} {os : OsState} {n : Nat} {T T' : BT} {k k' t t' : Nat} {l : List Stmt} {p p' : Pos} (h : twSeg twTab pw w 11 (some (.ref 6)) 1 n (tS T k t os) (pcs l p) = some (.next, tS T' k' t' os, cE, p')) :
    segRun treeTable pw w 11 (some (.ref 6)) 1 n (tS T k t os).abs (piecesOf l env0 cE p [topFrame fp]) = some (.next, (tS T' k' t' os).abs, cE, p') := by
  rw [pcs_eq]
  unfold twSeg twTab at h
  rw [← PySem.W.Fast.te10110043849684766642, ← PySem.W.Fast.te14364793385576792824] at h
  exact segRun_of h
theorem block (w : World) (os : OsState) : segRun treeTable pw w 11 (some (.ref 6)) 1 1 (tS (T0 w.params) 15 187 os).abs (blockOf (behindTheImports pw) env0 cE ⟨0, 0, 0, 0⟩ [topFrame fp]) = some (.next, (tS (T0 w.params) 15 187 os).abs, cE, ⟨0, 0, 0, 0⟩) := by kernel_rfl
noncomputable def R (w : World) (os : OsState) : Shared := (tS (T24 w.params) 908 1592 os).abs
noncomputable def L25 : List Stmt := []
noncomputable def M25 : Nat := 2
theorem r25 (w : World) (os : OsState) : topRun treeTable pw w 11 (some (.ref 6)) M25 (tS (T24 w.params) 908 1592 os).abs (restOf L25 env0 cE ⟨796, 0, 822, 16⟩ [topFrame fp]) = some (R w os) := by kernel_rfl
noncomputable def L24 : List Stmt := s24 ++ L25
noncomputable def M24 : Nat := 42 + M25
theorem r24 (w : World) (os : OsState) : topRun treeTable pw w 11 (some (.ref 6)) M24 (tS (T23 w.params) 901 1573 os).abs (restOf L24 env0 cE ⟨785, 0, 795, 15⟩ [topFrame fp]) = some (R w os) := by
  unfold M24 L24
  exact piece_app (n := 42) (N := M25) (l := s24) (rest := L25) (seg_of (g24 w os)) (r25 w os)
noncomputable def L23 : List Stmt := s23 ++ L24
noncomputable def M23 : Nat := 385 + M24
theorem r23 (w : World) (os : OsState) : topRun treeTable pw w 11 (some (.ref 6)) M23 (tS (T22 w.params) 818 1467 os).abs (restOf L23 env0 cE ⟨590, 0, 591, 84⟩ [topFrame fp]) = some (R w os) := by
  unfold M23 L23
  exact piece_app (n := 385) (N := M24) (l := s23) (rest := L24) (seg_of (g23 w os)) (r24 w os)
noncomputable def L22 : List Stmt := s22 ++ L23
noncomputable def M22 : Nat := 378 + M23
theorem r22 (w : World) (os : OsState) : topRun treeTable pw w 11 (some (.ref 6)) M22 (tS (T21 w.params) 776 1379 os).abs (restOf L22 env0 cE ⟨541, 0, 557, 12⟩ [topFrame fp]) = some (R w os) := by
  unfold M22 L22
  exact piece_app (n := 378) (N := M23) (l := s22) (rest := L23) (seg_of (g22 w os)) (r23 w os)
noncomputable def L21 : List Stmt := s21 ++ L22
noncomputable def M21 : Nat := 386 + M22
theorem r21 (w : World) (os : OsState) : topRun treeTable pw w 11 (some (.ref 6)) M21 (tS (T20 w.params) 685 1280 os).abs (restOf L21 env0 cE ⟨451, 0, 454, 35⟩ [topFrame fp]) = some (R w os) := by
  unfold M21 L21
  exact piece_app (n := 386) (N := M22) (l := s21) (rest := L22) (seg_of (g21 w os)) (r22 w os)
noncomputable def L20 : List Stmt := s20 ++ L21
noncomputable def M20 : Nat := 376 + M21
theorem r20 (w : World) (os : OsState) : topRun treeTable pw w 11 (some (.ref 6)) M20 (tS (T19 w.params) 601 1169 os).abs (restOf L20 env0 cE ⟨372, 0, 374, 33⟩ [topFrame fp]) = some (R w os) := by
  unfold M20 L20
  exact piece_app (n := 376) (N := M21) (l := s20) (rest := L21) (seg_of (g20 w os)) (r21 w os)
noncomputable def L19 : List Stmt := s19 ++ L20
noncomputable def M19 : Nat := 391 + M20
theorem r19 (w : World) (os : OsState) : topRun treeTable pw w 11 (some (.ref 6)) M19 (tS (T18 w.params) 560 1102 os).abs (restOf L19 env0 cE ⟨349, 0, 355, 47⟩ [topFrame fp]) = some (R w os) := by
  unfold M19 L19
  exact piece_app (n := 391) (N := M20) (l := s19) (rest := L20) (seg_of (g19 w os)) (r20 w os)
noncomputable def L18 : List Stmt := s18 ++ L19
noncomputable def M18 : Nat := 247 + M19
theorem r18 (w : World) (os : OsState) : topRun treeTable pw w 11 (some (.ref 6)) M18 (tS (T17 w.params) 541 1076 os).abs (restOf L18 env0 cE ⟨339, 0, 348, 20⟩ [topFrame fp]) = some (R w os) := by
  unfold M18 L18
  exact piece_app (n := 247) (N := M19) (l := s18) (rest := L19) (seg_of (g18 w os)) (r19 w os)
noncomputable def L17 : List Stmt := s17 ++ L18
noncomputable def M17 : Nat := 241 + M18
theorem r17 (w : World) (os : OsState) : topRun treeTable pw w 11 (some (.ref 6)) M17 (tS (T16 w.params) 524 1054 os).abs (restOf L17 env0 cE ⟨335, 0, 338, 12⟩ [topFrame fp]) = some (R w os) := by
  unfold M17 L17
  exact piece_app (n := 241) (N := M18) (l := s17) (rest := L18) (seg_of (g17 w os)) (r18 w os)
noncomputable def L16 : List Stmt := s16 ++ L17
noncomputable def M16 : Nat := 186 + M17
theorem r16 (w : World) (os : OsState) : topRun treeTable pw w 11 (some (.ref 6)) M16 (tS (T15 w.params) 484 1006 os).abs (restOf L16 env0 cE ⟨283, 0, 313, 16⟩ [topFrame fp]) = some (R w os) := by
  unfold M16 L16
  exact piece_app (n := 186) (N := M17) (l := s16) (rest := L17) (seg_of (g16 w os)) (r17 w os)
noncomputable def L15 : List Stmt := s15 ++ L16
noncomputable def M15 : Nat := 424 + M16
theorem r15 (w : World) (os : OsState) : topRun treeTable pw w 11 (some (.ref 6)) M15 (tS (T14 w.params) 421 920 os).abs (restOf L15 env0 cE ⟨276, 0, 282, 33⟩ [topFrame fp]) = some (R w os) := by
  unfold M15 L15
  exact piece_app (n := 424) (N := M16) (l := s15) (rest := L16) (seg_of (g15 w os)) (r16 w os)
noncomputable def L14 : List Stmt := s14 ++ L15
noncomputable def M14 : Nat := 256 + M15
theorem r14 (w : World) (os : OsState) : topRun treeTable pw w 11 (some (.ref 6)) M14 (tS (T13 w.params) 393 882 os).abs (restOf L14 env0 cE ⟨272, 0, 275, 31⟩ [topFrame fp]) = some (R w os) := by
  unfold M14 L14
  exact piece_app (n := 256) (N := M15) (l := s14) (rest := L15) (seg_of (g14 w os)) (r15 w os)
noncomputable def L13 : List Stmt := s13 ++ L14
noncomputable def M13 : Nat := 223 + M14
theorem r13 (w : World) (os : OsState) : topRun treeTable pw w 11 (some (.ref 6)) M13 (tS (T12 w.params) 372 853 os).abs (restOf L13 env0 cE ⟨271, 0, 271, 8⟩ [topFrame fp]) = some (R w os) := by
  unfold M13 L13
  exact piece_app (n := 223) (N := M14) (l := s13) (rest := L14) (seg_of (g13 w os)) (r14 w os)
noncomputable def L12 : List Stmt := s12 ++ L13
noncomputable def M12 : Nat := 339 + M13
theorem r12 (w : World) (os : OsState) : topRun treeTable pw w 11 (some (.ref 6)) M12 (tS (T11 w.params) 330 781 os).abs (restOf L12 env0 cE ⟨235, 0, 235, 10⟩ [topFrame fp]) = some (R w os) := by
  unfold M12 L12
  exact piece_app (n := 339) (N := M13) (l := s12) (rest := L13) (seg_of (g12 w os)) (r13 w os)
noncomputable def L11 : List Stmt := s11 ++ L12
noncomputable def M11 : Nat := 709 + M12
theorem r11 (w : World) (os : OsState) : topRun treeTable pw w 11 (some (.ref 6)) M11 (tS (T10 w.params) 259 711 os).abs (restOf L11 env0 cE ⟨234, 0, 234, 6⟩ [topFrame fp]) = some (R w os) := by
  unfold M11 L11
  exact piece_app (n := 709) (N := M12) (l := s11) (rest := L12) (seg_of (g11 w os)) (r12 w os)
noncomputable def L10 : List Stmt := s10 ++ L11
noncomputable def M10 : Nat := 298 + M11
theorem r10 (w : World) (os : OsState) : topRun treeTable pw w 11 (some (.ref 6)) M10 (tS (T9 w.params) 259 645 os).abs (restOf L10 env0 cE ⟨201, 0, 201, 8⟩ [topFrame fp]) = some (R w os) := by
  unfold M10 L10
  exact piece_app (n := 298) (N := M11) (l := s10) (rest := L11) (seg_of (g10 w os)) (r11 w os)
noncomputable def L9 : List Stmt := s9 ++ L10
noncomputable def M9 : Nat := 397 + M10
theorem r9 (w : World) (os : OsState) : topRun treeTable pw w 11 (some (.ref 6)) M9 (tS (T8 w.params) 219 575 os).abs (restOf L9 env0 cE ⟨179, 0, 179, 8⟩ [topFrame fp]) = some (R w os) := by
  unfold M9 L9
  exact piece_app (n := 397) (N := M10) (l := s9) (rest := L10) (seg_of (g9 w os)) (r10 w os)
noncomputable def L8 : List Stmt := s8 ++ L9
noncomputable def M8 : Nat := 393 + M9
theorem r8 (w : World) (os : OsState) : topRun treeTable pw w 11 (some (.ref 6)) M8 (tS (T7 w.params) 135 468 os).abs (restOf L8 env0 cE ⟨109, 0, 114, 12⟩ [topFrame fp]) = some (R w os) := by
  unfold M8 L8
  exact piece_app (n := 393) (N := M9) (l := s8) (rest := L9) (seg_of (g8 w os)) (r9 w os)
noncomputable def L7 : List Stmt := s7 ++ L8
noncomputable def M7 : Nat := 387 + M8
theorem r7 (w : World) (os : OsState) : topRun treeTable pw w 11 (some (.ref 6)) M7 (tS (T6 w.params) 79 389 os).abs (restOf L7 env0 cE ⟨46, 0, 46, 10⟩ [topFrame fp]) = some (R w os) := by
  unfold M7 L7
  exact piece_app (n := 387) (N := M8) (l := s7) (rest := L8) (seg_of (g7 w os)) (r8 w os)
noncomputable def L6 : List Stmt := s6 ++ L7
noncomputable def M6 : Nat := 223 + M7
theorem r6 (w : World) (os : OsState) : topRun treeTable pw w 11 (some (.ref 6)) M6 (tS (T5 w.params) 67 350 os).abs (restOf L6 env0 cE ⟨45, 0, 45, 8⟩ [topFrame fp]) = some (R w os) := by
  unfold M6 L6
  exact piece_app (n := 223) (N := M7) (l := s6) (rest := L7) (seg_of (g6 w os)) (r7 w os)
noncomputable def L5 : List Stmt := s5 ++ L6
noncomputable def M5 : Nat := 207 + M6
theorem r5 (w : World) (os : OsState) : topRun treeTable pw w 11 (some (.ref 6)) M5 (tS (T4 w.params) 66 321 os).abs (restOf L5 env0 cE ⟨44, 0, 44, 13⟩ [topFrame fp]) = some (R w os) := by
  unfold M5 L5
  exact piece_app (n := 207) (N := M6) (l := s5) (rest := L6) (seg_of (g5 w os)) (r6 w os)
noncomputable def L4 : List Stmt := s4 ++ L5
noncomputable def M4 : Nat := 100 + M5
theorem r4 (w : World) (os : OsState) : topRun treeTable pw w 11 (some (.ref 6)) M4 (tS (T3 w.params) 66 299 os).abs (restOf L4 env0 cE ⟨33, 0, 33, 7⟩ [topFrame fp]) = some (R w os) := by
  unfold M4 L4
  exact piece_app (n := 100) (N := M5) (l := s4) (rest := L5) (seg_of (g4 w os)) (r5 w os)
noncomputable def L3 : List Stmt := s3 ++ L4
noncomputable def M3 : Nat := 394 + M4
theorem r3 (w : World) (os : OsState) : topRun treeTable pw w 11 (some (.ref 6)) M3 (tS (T2 w.params) 54 243 os).abs (restOf L3 env0 cE ⟨10, 0, 11, 8⟩ [topFrame fp]) = some (R w os) := by
  unfold M3 L3
  exact piece_app (n := 394) (N := M4) (l := s3) (rest := L4) (seg_of (g3 w os)) (r4 w os)
noncomputable def L2 : List Stmt := s2 ++ L3
noncomputable def M2 : Nat := 214 + M3
theorem r2 (w : World) (os : OsState) : topRun treeTable pw w 11 (some (.ref 6)) M2 (tS (T1 w.params) 42 227 os).abs (restOf L2 env0 cE ⟨5, 0, 9, 20⟩ [topFrame fp]) = some (R w os) := by
  unfold M2 L2
  exact piece_app (n := 214) (N := M3) (l := s2) (rest := L3) (seg_of (g2 w os)) (r3 w os)
noncomputable def L1 : List Stmt := s1 ++ L2
noncomputable def M1 : Nat := 269 + M2
theorem r1 (w : World) (os : OsState) : topRun treeTable pw w 11 (some (.ref 6)) M1 (tS (T0 w.params) 15 187 os).abs (restOf L1 env0 cE ⟨0, 0, 0, 0⟩ [topFrame fp]) = some (R w os) := by
  unfold M1 L1
  exact piece_app (n := 269) (N := M2) (l := s1) (rest := L2) (seg_of (g1 w os)) (r2 w os)
theorem split : behindTheImports pw = L1 := by kernel_rfl
noncomputable def H1h (P : Params) : Heap := absHeap (T24 P) 908 {}
noncomputable def MM : Nat := 12 + (1 + M1)
theorem rA (w : World) (os : OsState) : topRun treeTable pw w 11 (some (.ref 6)) M1 (tS (T0 w.params) 15 187 os).abs (restOf (behindTheImports pw) env0 cE ⟨0, 0, 0, 0⟩ [topFrame fp]) = some (R w os) := by
  rw [split]; exact r1 w os
theorem run (w : World) (os : OsState) : topRun treeTable pw w 11 (some (.ref 6)) MM (S0 w os) (topStub pw) = some (R w os) := by
  unfold MM
  exact go_top (n := 12) (N := 1 + M1) (pre w os) (piece_block (n := 1) (N := M1) (block w os) (rA w os))
end Mine.H
end
noncomputable section
namespace Mine.H
open PySem PySem.W PyProof.Rows
noncomputable abbrev rw0 : OpenLaw := PySem.Challenge.rw_sa0247_01
noncomputable def q0 : Program := { pw with main := { pw.main with body := [st 173] } }
noncomputable def loose0 : List Str := (pw.main.scope.names.map (·.1)).filter fun x => !(x == z322)
noncomputable def Xt0 (s : Shared) : Bool := xlAt q0 [] s && recOk [] s
noncomputable def mods0 : List Str := importedModules pw.main.body
noncomputable def F0 (w : World) (os : OsState) : Shared := ⟨H1h w.params, #[], d0, 1592, os⟩
theorem size0 (w : World) : ((boot_heap w.params).isNs mainGlobals && (Array.mk [] : Array GenState).size == 0, (boot_heap w.params).objs.size, (boot_heap w.params).nsMap mainGlobals "__annotations__") = (true, 11, some (.ref 6)) := by kernel_rfl
theorem lk1 (w : World) : staticsOk mods0 (boot_heap w.params) (H1h w.params) = true := by kernel_rfl
theorem lk2 (w : World) : namesBound pw (H1h w.params) = true := by kernel_rfl
theorem lk3 (w : World) (os : OsState) : gensDone (F0 w os) = true := by kernel_rfl
theorem lk4 (w : World) : laidKept (boot_heap w.params) (H1h w.params) = true := by kernel_rfl
theorem lk5 (w : World) (os : OsState) : twSeen q0 loose0 mods0 Xt0 true (F0 w os) = openGood q0 loose0 := by kernel_rfl
end Mine.H
end
noncomputable section
namespace Mine.H
open PySem PySem.W PyProof.Rows
theorem and4 {a b c d : Bool} (x : a = true) (y : b = true) (z : c = true) (u : d = true) : (a && b && c && d) = true := by rw [x, y, z, u]; rfl
theorem seen5 (w : World) (os : OsState) : openSeen q0 loose0 mods0 Xt0 true (F0 w os) = openGood q0 loose0 := by
  have e := lk5 w os
  unfold twSeen at e
  rw [← PySem.W.Fast.te4187177175401517315] at e
  exact e
theorem looks1 (w : World) (os : OsState) : ((staticsOk mods0 (boot_heap w.params) (H1h w.params) && namesBound pw (H1h w.params) && gensDone (F0 w os) && laidKept (boot_heap w.params) (H1h w.params)),
    openSeen q0 loose0 mods0 Xt0 true (F0 w os), (F0 w os).heap) = (true, openGood q0 loose0, H1h w.params) :=
  Prod.ext (and4 (lk1 w) (lk2 w) (lk3 w os) (lk4 w)) (Prod.ext (seen5 w os) (Eq.refl (H1h w.params)))
theorem op1 : opening pw = plainProg pw.main.scope.names := by kernel_rfl
theorem op2 (s : Shared) : fenceModules? pw s = some s := by kernel_rfl
theorem op3 : Nat.ble 600 20000 = true := by kernel_rfl
theorem op4 : Nat.ble MM 20000 = true := by kernel_rfl
theorem R_eq (w : World) (os : OsState) : R w os = ⟨H1h w.params, #[], d0, 1592, os⟩ := by kernel_rfl
theorem S_eq (w : World) (os : OsState) : S0 w os = ⟨boot_heap w.params, Array.mk [], boot_drawn, boot_toks, os⟩ := by kernel_rfl
theorem run1 (w : World) (os : OsState) : topRun treeTable pw w 11 (some (.ref 6)) MM ⟨boot_heap w.params, Array.mk [], boot_drawn, boot_toks, os⟩ (topStub pw) = some ⟨H1h w.params, #[], d0, 1592, os⟩ := by
  rw [← R_eq, ← S_eq]
  exact run w os
theorem left0 : LeftO pw q0 loose0 Xt0 (fun s : Shared => s.heap) (fun w => H1h w.params) 20000 true :=
  LeftO.of_pieces (H₀ := boot_heap) (H₁ := H1h) (gs₀ := Array.mk []) (gs₁ := #[]) (d₀ := boot_drawn) (d₁ := d0) (k₀ := boot_toks) (k₁ := 1592) (m₀ := 11) (ann := some (.ref 6)) (M := MM)
    (boot_open op1 op3 op2) size0 run1 op4 (fun w => funext fun os => looks1 w os)
end Mine.H
end
noncomputable section
namespace Mine.H
open PySem PySem.W PySem.W.X PyProof.Rows PySem.Calls
noncomputable def lawPos : Pos := (st 173).pos
noncomputable def dLaw : DefRec := ⟨Str.ofString "law", fArgs (st 173), fBody (st 173), fScope (st 173), lawPos⟩
theorem c2 : defOf q0 (Str.ofString "law") = some (dLaw, []) := by kernel_rfl
theorem c3 : pw.theDef (Str.ofString "law") = some (dLaw.params, dLaw.body, dLaw.scope) := by kernel_rfl
theorem c4 : kwWritten? dLaw.params.kwonlyargs dLaw.params.kw_defaults = some [] := by kernel_rfl
theorem c5a : chainsOk q0 = true := by kernel_rfl
theorem c5b : opensWell PySem.Challenge.pw_sa0247_01 = true := by kernel_rfl
theorem c5c : (frees rw0.row.toRowW && rw0.row.within.isEmpty) = true := by kernel_rfl
theorem c5 : (chainsOk q0 && opensWell pw && (frees rw0.row.toRowW && rw0.row.within.isEmpty)) = true := by rw [c5a, c5c]; exact (Bool.and_true _).trans ((Bool.true_and _).trans c5b)
noncomputable abbrev sM : Scope := pw.main.scope
noncomputable abbrev bM : List Stmt := pw.main.body
noncomputable abbrev xM : TablesWhole.Ctx := ⟨sM, [], [], [], none⟩
noncomputable abbrev twW (l : List Stmt) : Bool := Fast.tw16421684217811934046 TablesWhole.holds sM xM sM l
theorem m1 : Fast.tw8331962902438777018 sM = true := by kernel_rfl
theorem m2 : Fast.tw16421684217811934046 Fast.tw12652042256554560961 sM xM sM bM = [] := by kernel_rfl
theorem m3 : twW (bM.take 60) = true := by kernel_rfl
theorem m4 : twW ((bM.drop 60).take 70) = true := by kernel_rfl
theorem m5 : twW ((bM.drop 60).drop 70) = true := by kernel_rfl
theorem ws_app (t : Scope) (cx : TablesWhole.Ctx) (sc : Scope) (b : List Stmt) : ∀ a, TablesWhole.wSs TablesWhole.holds t cx sc (a ++ b) = (TablesWhole.wSs TablesWhole.holds t cx sc a && TablesWhole.wSs TablesWhole.holds t cx sc b)
  | [] => rfl
  | s :: a => (congrArg (TablesWhole.wS TablesWhole.holds t cx sc s && ·) (ws_app t cx sc b a)).trans (Bool.and_assoc _ _ _).symm
theorem ws_cut (t : Scope) (cx : TablesWhole.Ctx) (sc : Scope) (l : List Stmt) (n : Nat) (x : TablesWhole.wSs TablesWhole.holds t cx sc (l.take n) = true) (y : TablesWhole.wSs TablesWhole.holds t cx sc (l.drop n) = true) : TablesWhole.wSs TablesWhole.holds t cx sc l = true := by
  rw [← List.take_append_drop n l, ws_app, x, y]; rfl
theorem w_all {p : Program} (h1 : p.modules = []) (h2 : p.parses = []) (h3 : p.harvested = []) {g : List Str} (a : TablesWhole.noTwice p.main.scope = true)
    (b : TablesWhole.wSs TablesWhole.gather p.main.scope ⟨p.main.scope, [], [], [], none⟩ p.main.scope p.main.body = g) (c : TablesWhole.wSs TablesWhole.holds p.main.scope ⟨p.main.scope, [], g, [], none⟩ p.main.scope p.main.body = true) : p.tablesWhole = true := by
  subst b
  have e : TablesWhole.wModule TablesWhole.holds p.main = true := by
    show (true && (TablesWhole.noTwice p.main.scope && (TablesWhole.wSs _ _ _ _ _ && true))) = true
    rw [a, c]; rfl
  unfold Program.tablesWhole TablesWhole.wProgram
  rw [h1, h2, h3, e]; rfl
theorem whole : pw.tablesWhole = true := by
  have a := m1
  have b := m2
  have x := m3
  have y := m4
  have z := m5
  unfold twW at x y z
  rw [← Fast.te8331962902438777018] at a
  rw [← Fast.te16421684217811934046] at b x y z
  rw [← Fast.te12652042256554560961] at b
  exact w_all rfl rfl rfl a b (ws_cut _ _ _ _ 60 x (ws_cut _ _ _ _ 70 y z))
theorem c6 : pw.bare := ⟨rfl, rfl, rfl, rfl, rfl, whole⟩
theorem c7 : PySem.Challenge.rw_sa0247_01.row.toRowW.promised := by refine ⟨[.list []], ?_, ?_⟩ <;> decide +kernel
theorem c8 (s : Shared) (e : Xt0 s = true) : XL q0 [] (s.heap.nsMap mainGlobals) s.heap := xl_of s (Bool.and_eq_true_iff.mp e).1
theorem c9 (s : Shared) (e : Xt0 s = true) : RecFacts rw0.row.records s.heap := recFacts_of (Bool.and_eq_true_iff.mp e).2
noncomputable abbrev TheCall : Prop := WalkX q0 loose0 (XL q0 []) (fun s : Shared => s.heap) (fun w => H1h w.params) rw0.row.toRowW dLaw [] (fun f vs => PySem.call f vs)
theorem row0 (said : rw0.row.wellSaid = true) (call : TheCall) : rw0.row.Holds :=
  holds_openX (r := rw0.row) left0 c8 XL.keeps c2 c3 c4 c9 rfl said c5 c6 c7 call
noncomputable abbrev twSaid := @Fast.tw9446332074065402090
noncomputable abbrev lV : Str := ⟨⟨[nat_lit 118, nat_lit 97, nat_lit 114, nat_lit 115]⟩⟩
noncomputable abbrev lD : Str := ⟨⟨[nat_lit 100, nat_lit 105, nat_lit 114]⟩⟩
noncomputable abbrev lL : Str := ⟨⟨[nat_lit 108, nat_lit 111, nat_lit 99, nat_lit 97, nat_lit 108, nat_lit 115]⟩⟩
theorem l1 : Fast.tw13343964577679436407 pw bM lV = false := by kernel_rfl
theorem l2 : Fast.tw13343964577679436407 pw bM lD = false := by kernel_rfl
theorem l3 : Fast.tw13343964577679436407 pw bM lL = false := by kernel_rfl
theorem fl {f : Str → Bool} {a : Str} {l : List Str} (h : f a = false) (e : R.filterR f l = []) : R.filterR f (a :: l) = [] := by
  have x : R.filterR f (a :: l) = Bool.rec (motive := fun _ => List Str) (R.filterR f l) (a :: R.filterR f l) (f a) := rfl
  rw [x, h]; exact e
theorem l4 : R.filterR (Fast.tw13343964577679436407 pw bM) [lV, lD, lL] = [] := fl l1 (fl l2 (fl l3 rfl))
theorem l5 : Fast.tw8377067652309620493 pw = true := by kernel_rfl
theorem l6 : Fast.tw8326940854005059898 {strict := !R.allR (Fast.tw5923862056798008813 bM) (@Fast.tw3471404346716756564 _ (@instBEqOfDecidableEq _ Fast.sDec) Fast.tw17691160309236699985), foot := none, bare := []} bM = true := by kernel_rfl
theorem l7 : (Fast.tw17119622794617984870 pw bM fun _ n => Fast.tw17868728402115742887 n) = true := by kernel_rfl
theorem said' : twSaid PySem.Challenge.rw_sa0247_01 = true := by
  unfold twSaid Fast.tw9446332074065402090 Fast.tw17960256430627541270 Fast.tw2436336058641802641 Fast.tw12908688711261696721
  rw [show (Fast.tw2368527892694137696 PySem.Challenge.rw_sa0247_01).prog = pw from rfl, l4, l5, l6, l7]
  kernel_rfl
theorem said : PySem.Challenge.rw_sa0247_01.wellSaid = true := by
  have h := said'
  unfold twSaid at h
  rw [← Fast.te9446332074065402090] at h
  exact h
theorem head (call : TheCall) : PySem.Challenge.rw_sa0247_01.Holds := holds_law said fun q => row0 q call
end Mine.H
end
noncomputable section
namespace Mine
open PySem
noncomputable def lb : List Nat → List Nat → Bool
  | [], [] => true
  | a :: x, b :: y => match Nat.beq a b with
    | true => lb x y
    | false => false
  | _, _ => false
noncomputable def sq (a b : Str) : Bool := lb a.cps.toList b.cps.toList
inductive Bi where
  | len | range | isinst | strT | chr | max | listT | tupleT | min | dictT
inductive D where
  | none
  | bool (b : Bool)
  | int (i : Int)
  | str (s : Str)
  | tup (l : List D)
  | lst (l : List D)
  | dct (ks ds : List D)
  | obj (C : Addr) (ns : List Str) (ds : List D)
  | ref (a : Addr)
  | bi (b : Bi)
  | rng (n : Int)
  | cell (i : Nat)
  | any
inductive V where
  | dat (d : D)
  | loc (i : Nat)
abbrev RK := Int × Int × Option (List Int)
inductive Cell where
  | lst (l : List D)
  | dct (ks ds : List D)
  | tab (ks : List RK) (ds : List D)
  | obj (C : Addr) (ns : List Str) (ds : List D)
structure St where
  pi : List Cell
  lc : List (List D)
abbrev Rho := List (Str × Option V)
abbrev Out := Option V × Rho × St
noncomputable def kindIn : List (Str × NameKind) → Str → Option NameKind
  | [], _ => none
  | (y, k) :: r, x => match sq x y with
    | true => some k
    | false => kindIn r x
noncomputable def rget : Rho → Str → Option V
  | [], _ => none
  | (y, v) :: r, x => match sq x y with
    | true => v
    | false => rget r x
noncomputable def rset : Rho → Str → V → Option Rho
  | [], _, _ => none
  | (y, v) :: r, x, u => match sq x y with
    | true => some ((y, some u) :: r)
    | false => (rset r x u).bind fun r' => some ((y, v) :: r')
noncomputable def isLocV : Option V → Bool
  | some (.loc _) => true
  | _ => false
noncomputable def offLoc : Rho → Rho
  | [] => []
  | (y, v) :: r => (y, match isLocV v with
    | true => none
    | false => v) :: offLoc r
noncomputable def fget : List Str → List D → Str → Option D
  | y :: r, d :: t, x => match sq x y with
    | true => some d
    | false => fget r t x
  | _, _, _ => none
noncomputable def dInt : D → Option Int
  | .int i => some i
  | _ => none
noncomputable def dStr : D → Option Str
  | .str i => some i
  | _ => none
noncomputable def dNat : D → Option Nat
  | .int (.ofNat n) => some n
  | _ => none
noncomputable def dTup : D → Option (List D)
  | .tup l => some l
  | _ => none
noncomputable def dLst : D → Option (List D)
  | .lst l => some l
  | _ => none
noncomputable def dBool : D → Option Bool
  | .bool l => some l
  | _ => none
noncomputable def isN : D → Bool
  | .none => true
  | _ => false
noncomputable def isAny : D → Bool
  | .any => true
  | _ => false
noncomputable def onO {α : Type} (b : Bool) (x : Option α) : Option α := match b with
  | true => x
  | false => none
noncomputable def eqs (f : D → D → Option Bool) : List D → List D → Option Bool
  | [], [] => some true
  | a :: x, b :: y => (f a b).bind fun p => (eqs f x y).bind fun q => some (p && q)
  | _, _ => some false
noncomputable def eqD : Nat → D → D → Option Bool
  | 0, _, _ => none
  | n + 1, a, b => match a with
    | .none => onO (isN b) (some true)
    | .bool x => (dBool b).bind fun y => some (x == y)
    | .int x => (dInt b).bind fun y => some (decide (x = y))
    | .str x => (dStr b).bind fun y => some (sq x y)
    | .tup x => (dTup b).bind fun y => eqs (eqD n) x y
    | .lst x => (dLst b).bind fun y => eqs (eqD n) x y
    | _ => none
noncomputable def keyIs (a b : D) : Bool := match a with
  | .str x => match dStr b with
    | some y => sq x y
    | none => false
  | .int x => match dInt b with
    | some y => decide (x = y)
    | none => false
  | _ => false
noncomputable def dget : List D → List D → D → Option D
  | k :: ks, v :: ds, x => match keyIs x k with
    | true => some v
    | false => dget ks ds x
  | _, _, _ => none
noncomputable def dset : List D → List D → D → D → Option (List D)
  | k :: ks, v :: ds, x, u => match keyIs x k with
    | true => some (u :: ds)
    | false => (dset ks ds x u).bind fun r => some (v :: r)
  | _, _, _, _ => none
noncomputable def chk (n : Nat) : Bool := Nat.ble n 16777216
noncomputable def small (i : Int) : Bool := Nat.blt i.natAbs 1000000000
noncomputable def truth : D → Option Bool
  | .none => some false
  | .bool b => some b
  | .int i => some (!decide (i = 0))
  | .tup l => some (!l.isEmpty)
  | .lst l => some (!l.isEmpty)
  | _ => none
noncomputable def intKeyed : List D → Bool
  | k :: _ => (dInt k).isSome
  | [] => false
noncomputable def cmpI (op : CmpOp) (a b : Int) : Option Bool := match op with
  | .Lt => some (!decide (b ≤ a))
  | .LtE => some (decide (a ≤ b))
  | .Gt => some (!decide (a ≤ b))
  | .GtE => some (decide (b ≤ a))
  | _ => none
noncomputable def isNone (a : D) : Option Bool := match isAny a with
  | true => none
  | false => some (isN a)
noncomputable def cmp (op : CmpOp) (a b : D) : Option Bool := match op with
  | .Eq => eqD 8 a b
  | .NotEq => (eqD 8 a b).bind fun r => some (!r)
  | .Is => match isN b with
    | true => isNone a
    | false => none
  | .IsNot => match isN b with
    | true => (isNone a).bind fun b => some (!b)
    | false => none
  | .In => match b with
    | .dct ks ds => match intKeyed ks with
      | true => (dInt a).bind fun i => some (dget ks ds (.int i)).isSome
      | false => none
    | _ => none
  | op => (dInt a).bind fun x => (dInt b).bind fun y => cmpI op x y
noncomputable def posI : Int → Bool
  | .ofNat n => match n with
    | 0 => false
    | _ + 1 => true
  | .negSucc _ => false
noncomputable def at_ (l : List D) : Int → Option D
  | .ofNat n => l[n]?
  | .negSucc _ => none
noncomputable def place (n : Nat) : Int → Option Nat
  | .ofNat i => onO (Nat.blt i n) (some i)
  | .negSucc i => onO (Nat.blt i n) (some (n - (i + 1)))
noncomputable def itemsOf : D → Option (List D)
  | .tup l => some l
  | .lst l => some l
  | .rng n => some ((List.range n.toNat).map fun i => .int (.ofNat i))
  | _ => none
noncomputable def seqOf : D → Option (List D)
  | .tup l => some l
  | .lst l => some l
  | _ => none
noncomputable def intText (i : Int) : Str := Str.ofString (toString i)
noncomputable def strsOf : List D → Option (List Str)
  | [] => some []
  | d :: r => (dStr d).bind fun s => (strsOf r).bind fun t => some (s :: t)
noncomputable def lenSum : List Str → Nat
  | [] => 0
  | s :: r => s.length + lenSum r
noncomputable def glue : List Str → Str
  | [] => ⟨#[]⟩
  | s :: r => match r with
    | [] => s
    | _ => s ++ glue r
noncomputable def listOf (v : V) (σ : St) : Option (List D) := match v with
  | .loc c => σ.lc[c]?
  | .dat d => match d with
    | .lst l => some l
    | .cell c => (σ.pi[c]?).bind fun x => match x with
      | .lst l => some l
      | _ => none
    | _ => none
noncomputable def rowOf (v : V) (σ : St) : Option (List D) := match v with
  | .dat (.tup l) => some l
  | v => listOf v σ
noncomputable def isT : Option Bool → Bool
  | some b => b
  | none => false
noncomputable def thaw (σ : St) (d : D) : D := match d with
  | .cell c => match σ.pi[c]? with
    | some x => (match x with
      | .lst l => .lst l
      | .dct ks ds => (match intKeyed ks with
        | true => .dct ks ds
        | false => .cell c)
      | _ => .cell c)
    | none => .cell c
  | d => d
noncomputable def neD (a b : D) : Option Bool := match a with
  | .dct ks ds => match b with
    | .dct ks' ds' => onO (intKeyed ks && (intKeyed ks' && isT (eqs (eqD 1) ks ks'))) ((eqs (eqD 6) ds ds').bind fun r => onO r (some false))
    | _ => none
  | a => cmp .NotEq a b
noncomputable def cmpS (op : CmpOp) (a b : D) (σ : St) : Option Bool := match op with
  | .NotEq => neD (thaw σ a) (thaw σ b)
  | op => cmp op a b
noncomputable def sliceD (d : D) (lo hi : Option D) : Option D := match d with
  | .tup l => lo.bind fun a => hi.bind fun b => (dNat a).bind fun i => (dNat b).bind fun j => onO (Nat.ble i j && Nat.ble j l.length) (some (.tup ((l.take j).drop i)))
  | .lst l => match lo with
    | some a => match hi with
      | some _ => none
      | none => (dNat a).bind fun i => some (.lst (l.drop i))
    | none => match hi with
      | some b => (dNat b).bind fun j => some (.lst (l.take j))
      | none => none
  | _ => none
noncomputable def item (v : V) (i : D) (σ : St) : Option D := match v with
  | .dat (.dct ks ds) => dget ks ds i
  | .dat (.cell c) => (σ.pi[c]?).bind fun x => match x with
    | .lst l => (dInt i).bind fun k => at_ l k
    | .dct ks ds => dget ks ds i
    | _ => none
  | v => (rowOf v σ).bind fun l => (dInt i).bind fun k => at_ l k
noncomputable def intsOf : List D → Option (List Int)
  | [] => some []
  | d :: r => (dInt d).bind fun i => (intsOf r).bind fun l => some (i :: l)
noncomputable def rkOf (d : D) : Option RK := (dTup d).bind fun l => match l with
  | a :: b :: r => (dInt a).bind fun i => (dInt b).bind fun j => match r with
    | [] => some (i, j, none)
    | c :: t => match t with
      | [] => (dTup c).bind fun m => (intsOf m).bind fun m => some (i, j, some m)
      | _ => none
  | _ => none
noncomputable def keyD (k : RK) : D := match k.2.2 with
  | none => .tup [.int k.1, .int k.2.1]
  | some l => .tup [.int k.1, .int k.2.1, .tup (l.map D.int)]
noncomputable def hasK {α : Type} (f : α → Bool) : List α → Bool
  | [] => false
  | a :: r => match f a with
    | true => true
    | false => hasK f r
noncomputable def req (i j : RK) : Bool := decide (i = j)
noncomputable def isIntD (d : D) : Bool := (dInt d).isSome
noncomputable def isStrD (d : D) : Bool := (dStr d).isSome
noncomputable def allD (f : D → Bool) : List D → Bool
  | [] => true
  | d :: r => match f d with
    | true => allD f r
    | false => false
noncomputable def dictSet (ks ds : List D) (k d : D) : Option Cell := match dset ks ds k d with
  | some ds' => some (.dct ks ds')
  | none => onO (Nat.blt ds.length 900) (match k with
    | .int _ => onO (allD isIntD ks) (some (.dct (ks ++ [k]) (ds ++ [d])))
    | .str _ => onO (allD isStrD ks) (some (.dct (ks ++ [k]) (ds ++ [d])))
    | .tup _ => match ks with
      | [] => (rkOf k).bind fun r => some (.tab [r] [d])
      | _ => none
    | _ => none)
noncomputable def tabSet (ks : List RK) (ds : List D) (k d : D) : Option Cell := (rkOf k).bind fun r => onO (!hasK (req r) ks && Nat.blt ds.length 900) (some (.tab (ks ++ [r]) (ds ++ [d])))
noncomputable def listSet (l : List D) (k d : D) : Option (List D) := (dInt k).bind fun i => (place l.length i).bind fun j => some (l.set j d)
noncomputable def cellSet (x : Cell) (k d : D) : Option Cell := match x with
  | .lst l => (listSet l k d).bind fun l' => some (.lst l')
  | .dct ks ds => dictSet ks ds k d
  | .tab ks ds => tabSet ks ds k d
  | .obj _ _ _ => none
noncomputable def setItem (v : V) (i d : D) (σ : St) : Option St := match v with
  | .loc c => (σ.lc[c]?).bind fun l => (listSet l i d).bind fun l' => some { σ with lc := σ.lc.set c l' }
  | .dat (.cell c) => (σ.pi[c]?).bind fun x => (cellSet x i d).bind fun x' => some { σ with pi := σ.pi.set c x' }
  | _ => none
end Mine
end
noncomputable section
namespace Mine
open PySem
inductive Tr where
  | fail
  | done (o : Out)
  | ask (a : Addr) (args : List D) (pi : List Cell) (k : D → List Cell → Tr)
  | need (b : Bool) (k : Tr)
  | test (b : Bool) (k : Bool → Tr)
  | prim (x : Option D) (k : D → Tr)
  | lres (x : Option (D × List D)) (k : D × List D → Tr)
  | wl (t : Rho → St → Tr) (b : Rho → St → Tr) (n : Nat) (ρ : Rho) (σ : St) (k : Out → Tr)
  | loop (b : D → Rho → St → Tr) (l : List D) (ρ : Rho) (σ : St) (k : Out → Tr)
noncomputable def lift {α : Type} (x : Option α) (k : α → Tr) : Tr := match x with
  | none => .fail
  | some a => k a
noncomputable def onB (b : Bool) (k : Tr) : Tr := match b with
  | true => k
  | false => .fail
noncomputable def testC (t : Bool) (c : Bool) (k : Bool → Tr) : Tr := match t with
  | true => .test c k
  | false => k c
noncomputable def primC (t : Bool) (x : Option D) (k : D → Tr) : Tr := match t with
  | true => .prim x k
  | false => lift x k
noncomputable def cmpC (t : Bool) (x : Option Bool) (k : Bool → Tr) : Tr := match t with
  | true => .prim (x.map D.bool) fun d => lift (dBool d) k
  | false => lift x k
noncomputable def lresC (t : Bool) (x : Option (D × List D)) (k : D × List D → Tr) : Tr := match t with
  | true => .lres x k
  | false => lift x k
noncomputable def mapC {α : Type} (f : α → St → (D → St → Tr) → Tr) : List α → St → (List D → St → Tr) → Tr
  | [], σ, k => k [] σ
  | a :: r, σ, k => f a σ fun d σ => mapC f r σ fun ds σ => k (d :: ds) σ
noncomputable def nxt (o : Out) (k : Out → Tr) (g : Rho → St → Tr) : Tr := match o.1 with
  | some v => k (some v, o.2)
  | none => g o.2.1 o.2.2
noncomputable def seqC (f : Stmt → Rho → St → (Out → Tr) → Tr) : List Stmt → Rho → St → (Out → Tr) → Tr
  | [], ρ, σ, k => k (none, ρ, σ)
  | s :: r, ρ, σ, k => f s ρ σ fun o => nxt o k fun ρ σ => seqC f r ρ σ k
noncomputable def forC (f : D → Rho → St → (Out → Tr) → Tr) : List D → Rho → St → (Out → Tr) → Tr
  | [], ρ, σ, k => k (none, ρ, σ)
  | d :: r, ρ, σ, k => f d ρ σ fun o => nxt o k fun ρ σ => forC f r ρ σ k
noncomputable def loopC (u : Bool) (f : D → Rho → St → (Out → Tr) → Tr) (l : List D) (ρ : Rho) (σ : St) (k : Out → Tr) : Tr := match u with
  | true => forC f l ρ σ k
  | false => .loop (fun d ρ σ => f d ρ σ .done) l ρ σ k
noncomputable def onD (k : D → St → Tr) (v : V) (σ : St) : Tr := match v with
  | .dat d => k d σ
  | .loc _ => .fail
noncomputable def short (op : BoolOp) (t : Bool) : Bool := match op with
  | .And => !t
  | .Or => t
noncomputable def endT (b : Bool) (σ : St) : Tr := .done (some (.dat (.bool b)), [], σ)
noncomputable def binC (op : Operator) (a b : D) (k : D → Tr) : Tr := match op with
  | .Add => match a with
    | .int i => lift (dInt b) fun j => k (.int (i + j))
    | .str x => lift (dStr b) fun y => .need (chk (x ++ y).length) (k (.str (x ++ y)))
    | _ => .fail
  | .Sub => lift (dInt a) fun i => lift (dInt b) fun j => k (.int (i - j))
  | .Mult => lift (dInt a) fun i => lift (dInt b) fun j => onB (small i) (k (.int (i * j)))
  | .Mod => lift (dInt a) fun i => lift (dInt b) fun j => onB (posI j) (k (.int (Int.fmod i j)))
  | .FloorDiv => lift (dInt a) fun i => lift (dInt b) fun j => onB (decide (0 < j) && small j) (k (.int (Int.fdiv i j)))
  | _ => .fail
inductive Mt where
  | append | extend | pop | get | join
noncomputable def mts : List (Str × Mt) := [(⟨⟨[nat_lit 97, nat_lit 112, nat_lit 112, nat_lit 101, nat_lit 110, nat_lit 100]⟩⟩, .append), (⟨⟨[nat_lit 101, nat_lit 120, nat_lit 116, nat_lit 101, nat_lit 110, nat_lit 100]⟩⟩, .extend),
  (⟨⟨[nat_lit 112, nat_lit 111, nat_lit 112]⟩⟩, .pop), (⟨⟨[nat_lit 103, nat_lit 101, nat_lit 116]⟩⟩, .get), (⟨⟨[nat_lit 106, nat_lit 111, nat_lit 105, nat_lit 110]⟩⟩, .join)]
noncomputable def sget {α : Type} : List (Str × α) → Str → Option α
  | [], _ => none
  | (k, v) :: r, a => match sq a k with
    | true => some v
    | false => sget r a
noncomputable def one {α : Type} : List α → Option α
  | a :: r => match r with
    | [] => some a
    | _ => none
  | [] => none
noncomputable def isLM : Mt → Bool
  | .append => true
  | .extend => true
  | .pop => true
  | _ => false
noncomputable def locM (m : Mt) (l ds : List D) : Option (D × List D) := match m with
  | .append => (one ds).bind fun d => onO (chk (l.length + 1)) (some (.none, l ++ [d]))
  | .extend => (one ds).bind fun d => (dTup d).bind fun t => onO (chk (l.length + t.length)) (some (.none, l ++ t))
  | .pop => match ds with
    | [] => l.getLast?.bind fun d => some (d, l.dropLast)
    | _ => none
  | _ => none
noncomputable def isLstC : Option Cell → Bool
  | some (.lst _) => true
  | _ => false
noncomputable def isTabC (o : Option Cell) : Bool := match o with
  | some c => match c with
    | .tab _ _ => true
    | .dct ks _ => intKeyed ks
    | _ => false
  | none => false
noncomputable def ready (m : Mt) (v : D) (σ : St) : Bool := match v with
  | .cell c => match m with
    | .append => isLstC σ.pi[c]?
    | .get => isTabC σ.pi[c]?
    | _ => false
  | .dct ks _ => match m with
    | .get => intKeyed ks
    | _ => false
  | .str s => match m with
    | .join => s.cps.toList.isEmpty
    | _ => false
  | _ => false
noncomputable def dfl (r : List D) : Option D := match r with
  | [] => some .none
  | _ => one r
noncomputable def getM (ks ds vs : List D) (k : D → Tr) : Tr := match vs with
  | a :: r => lift (dInt a) fun i => lift (dfl r) fun e => k ((dget ks ds (.int i)).getD e)
  | [] => .fail
noncomputable def two {α : Type} : List α → Option (α × α)
  | a :: r => (one r).bind fun b => some (a, b)
  | [] => none
noncomputable def metC (m : Mt) (v : D) (vs : List D) (σ : St) (k : D → St → Tr) : Tr := match v with
  | .cell c => match m with
    | .append => lift (one vs) fun d => lift (listOf (.dat (.cell c)) σ) fun l => .need (chk (l.length + 1)) (k .none { σ with pi := σ.pi.set c (.lst (l ++ [d])) })
    | .get => lift σ.pi[c]? fun x => match x with
      | .tab ks ds => lift (two vs) fun p => lift (rkOf p.1) fun r => onB (!hasK (req r) ks) (k p.2 σ)
      | .dct ks ds => onB (intKeyed ks) (getM ks ds vs fun d => k d σ)
      | _ => .fail
    | _ => .fail
  | .dct ks ds => getM ks ds vs fun d => k d σ
  | .str _ => lift (one vs) fun x => lift (dLst x) fun l => lift (strsOf l) fun t => .need (chk (lenSum t)) (k (.str (glue t)) σ)
  | _ => .fail
noncomputable def bi1 (b : Bi) (v : V) (σ : St) (k : V → St → Tr) : Tr := match b with
  | .len => lift (rowOf v σ) fun l => k (.dat (.int (.ofNat l.length))) σ
  | .range => match v with
    | .dat d => lift (dInt d) fun n => onB (small n) (k (.dat (.rng n)) σ)
    | _ => .fail
  | .strT => match v with
    | .dat d => lift (dInt d) fun i => .need (small i) (k (.dat (.str (intText i))) σ)
    | _ => .fail
  | .chr => match v with
    | .dat d => lift (dNat d) fun n => .need (Nat.blt n 128) (k (.dat (.str ⟨#[n]⟩)) σ)
    | _ => .fail
  | .listT => match v with
    | .dat d => lift (dTup d) fun l => k (.loc σ.lc.length) { σ with lc := σ.lc ++ [l] }
    | _ => .fail
  | .tupleT => match v with
    | .dat d => match d with
      | .tup l => k (.dat (.tup l)) σ
      | .lst l => k (.dat (.tup l)) σ
      | _ => .fail
    | .loc i => lift σ.lc[i]? fun l => k (.dat (.tup l)) σ
  | .dictT => match v with
    | .dat d => match thaw σ d with
      | .dct ks ds => onB (intKeyed ks && Nat.blt ds.length 900) (k (.dat (.cell σ.pi.length)) { σ with pi := σ.pi ++ [.dct ks ds] })
      | _ => .fail
    | _ => .fail
  | _ => .fail
noncomputable def isStrT : D → Bool
  | .bi .strT => true
  | _ => false
noncomputable def bi2 (b : Bi) (u v : D) (k : D → Tr) : Tr := match b with
  | .max => lift (dInt u) fun i => lift (dInt v) fun j => k (.int (if i < j then j else i))
  | .min => lift (dInt u) fun i => lift (dInt v) fun j => k (.int (if j < i then j else i))
  | .isinst => onB (isStrT v) (match u with
    | .str _ => k (.bool true)
    | .tup _ => k (.bool false)
    | _ => .fail)
  | _ => .fail
noncomputable def nameOf : Expr → Option Str
  | .Name x _ => some x
  | _ => none
noncomputable def oddName (x : Str) : Bool := match x.cps.toList with
  | a :: b :: c :: d :: _ => Nat.beq a 95 && Nat.beq b 95 && ((Nat.beq c 100 && Nat.beq d 101) || (Nat.beq c 99 && Nat.beq d 108))
  | _ => false
noncomputable def isK (k : NameKind) (o : Option NameKind) : Bool := match o with
  | some j => match k with
    | .local => (match j with
      | .local => true
      | _ => false)
    | .cell => (match j with
      | .cell => true
      | _ => false)
    | .free => (match j with
      | .free => true
      | _ => false)
    | .globalImplicit => (match j with
      | .globalImplicit => true
      | _ => false)
    | _ => false
  | none => false
noncomputable def compOk1 (sc sc2 : Scope) (x : Str) (ρ : Rho) (y : Str) (k : NameKind) : Bool := match k with
  | .local => isK .local (kindIn sc2.names y) && (sq y x || (rget ρ y).isNone)
  | .free => (rget ρ y).isSome && (isK .cell (kindIn sc.names y) || isK .free (kindIn sc.names y)) && isK .free (kindIn sc2.names y)
  | .globalImplicit => true
  | _ => false
noncomputable def isFun (sc : Scope) : Bool := match sc.kind with
  | .function => true
  | _ => false
noncomputable def compOk (sc sc2 : Scope) (x : Str) (ρ : Rho) : Bool := isFun sc2 && isK .local (kindIn sc2.names x) && sc2.names.all fun p => !oddName p.1 && compOk1 sc sc2 x ρ p.1 p.2
noncomputable def rsetL (sc : Scope) (ρ : Rho) (x : Str) (v : V) : Option Rho := onO (isK .local (kindIn sc.names x)) (rset ρ x v)
noncomputable def bindAll (sc : Scope) : List Expr → List D → Rho → Option Rho
  | [], ds, ρ => match ds with
    | [] => some ρ
    | _ => none
  | e :: es, ds, ρ => match ds with
    | d :: ds => (nameOf e).bind fun x => (rsetL sc ρ x (.dat d)).bind fun ρ' => bindAll sc es ds ρ'
    | [] => none
noncomputable def bindTo (sc : Scope) (t : Expr) (d : D) (ρ : Rho) : Option Rho := match t with
  | .Name x _ => rsetL sc ρ x (.dat d)
  | .Tuple ts _ _ => (seqOf d).bind fun l => bindAll sc ts l ρ
  | _ => none
noncomputable def isTupE : Expr → Bool
  | .Tuple .. => true
  | _ => false
noncomputable def plainBase : Expr → Bool
  | .Call .. => false
  | _ => true
noncomputable def constD : Const → Option D
  | .int i => some (.int i)
  | .str s => match Nat.ble s.length 1000 with
    | true => some (.str s)
    | false => none
  | _ => none
noncomputable def keyLit : List (Option Expr) → Option (List Const)
  | [] => some []
  | some (.Constant c _ _) :: r => (keyLit r).bind fun l => some (c :: l)
  | _ => none
noncomputable def constsD : List Const → Option (List D)
  | [] => some []
  | c :: r => (constD c).bind fun d => (constsD r).bind fun l => some (d :: l)
noncomputable def nodupD : List D → Bool
  | [] => true
  | k :: r => !hasK (keyIs k) r && nodupD r
noncomputable def dispOk (ks : List D) (n : Nat) : Bool := Nat.beq ks.length n && Nat.ble n 15 && nodupD ks && (allD isIntD ks || allD isStrD ks)
noncomputable def sliceOf : Expr → Option (Option Expr × Option Expr × Option Expr)
  | .Slice lo hi st _ => some (lo, hi, st)
  | _ => none
noncomputable def partC (f : Expr → St → (D → St → Tr) → Tr) (o : Option Expr) (σ : St) (k : Option D → St → Tr) : Tr := match o with
  | none => k none σ
  | some e => f e σ fun d σ => k (some d) σ
noncomputable def okE : Expr → Bool
  | .Constant .. => true
  | .Name .. => true
  | .Tuple .. => true
  | .List .. => true
  | .Dict .. => true
  | .BinOp .. => true
  | .Compare .. => true
  | .BoolOp .. => true
  | .UnaryOp .. => true
  | .IfExp .. => true
  | .Subscript .. => true
  | .Attribute .. => true
  | .Call .. => true
  | .ListComp .. => true
  | _ => false
noncomputable def noLC : Expr → Bool
  | .ListComp .. => false
  | _ => true
noncomputable def genOf (l : List Comprehension) : Option (Str × Expr) := (one l).bind fun g => onO (g.ifs.isEmpty && decide (g.is_async = 0)) ((nameOf g.target).bind fun x => some (x, g.iter))
noncomputable def okEs : List Expr → Bool
  | [] => true
  | e :: r => match okE e with
    | true => okEs r
    | false => false
noncomputable def isEmpC (o : Option Cell) : Bool := match o with
  | some (.dct [] []) => true
  | _ => false
noncomputable def okAttr : D → Bool
  | .any => false
  | .bi _ => false
  | _ => true
structure Cfg where
  u : Bool
  tt : Bool
  pm : Bool
  zm : Bool
  glob : Str → Option D
  meth : Addr → Str → Option (Option Addr)
  gcls : Str → Option Addr
  clsAt : Addr → Option (Option Addr)
  sets : Addr → Str → Bool
noncomputable def objOf (d : D) (σ : St) : Option (Addr × List Str × List D) := match d with
  | .obj C ns ds => some (C, ns, ds)
  | .cell c => σ.pi[c]?.bind fun x => match x with
    | .obj C ns ds => some (C, ns, ds)
    | _ => none
  | _ => none
noncomputable def setAttr (G : Cfg) (v : D) (x : Str) (d : D) (σ : St) : Option St := match v with
  | .cell c => σ.pi[c]?.bind fun o => match o with
    | .obj C ns ds => onO (G.sets C x && okAttr d && (fget ns ds x).isNone && Nat.blt ds.length 900) (some { σ with pi := σ.pi.set c (.obj C (ns ++ [x]) (ds ++ [d])) })
    | _ => none
  | _ => none
noncomputable def setC (t : Bool) (v : V) (kd d : D) (σ : St) (k : St → Tr) : Tr := match v with
  | .loc c => lift σ.lc[c]? fun l => lresC t ((listSet l kd d).bind fun l' => some (D.none, l')) fun r => k { σ with lc := σ.lc.set c r.2 }
  | v => lift (setItem v kd d σ) k
noncomputable def askC (a : Addr) (ds : List D) (σ : St) (k : V → St → Tr) : Tr := .ask a ds σ.pi fun r pi => k (.dat r) { σ with pi := pi }
noncomputable def newC (G : Cfg) (C : Addr) (ds : List D) (σ : St) (k : V → St → Tr) : Tr := lift (G.clsAt C) fun f => match f with
  | some f => .ask f (.cell σ.pi.length :: ds) (σ.pi ++ [.obj C [] []]) fun r pi => onB (isN r) (k (.dat (.cell σ.pi.length)) { σ with pi := pi })
  | none => match ds with
    | [] => k (.dat (.cell σ.pi.length)) { σ with pi := σ.pi ++ [.obj C [] []] }
    | _ => .fail
noncomputable def methA (G : Cfg) (d : D) (x : Str) (σ : St) : Option Addr := (objOf d σ).bind fun o => match fget o.2.1 o.2.2 x with
  | some _ => none
  | none => (G.meth o.1 x).bind fun a => a
noncomputable def attrD (G : Cfg) (d : D) (x : Str) (σ : St) : Option D := (objOf d σ).bind fun o => (G.meth o.1 x).bind fun a => match a with
  | none => fget o.2.1 o.2.2 x
  | some _ => none
noncomputable def orC (G : Cfg) (f : Expr → St → (D → St → Tr) → Tr) (op : BoolOp) (z : Expr → St → Tr) (k : V → St → Tr) : List Expr → St → Tr
  | [], _ => .fail
  | x :: r, σ => match r with
    | [] => z x σ
    | _ => f x σ fun d σ => lift (truth (thaw σ d)) fun t => testC G.tt t fun t => match short op t with
      | true => k (.dat d) σ
      | false => orC G f op z k r σ
noncomputable def orT (f : Expr → St → (Bool → St → Tr) → Tr) (op : BoolOp) (k : Bool → St → Tr) : List Expr → St → Tr
  | [], _ => .fail
  | x :: r, σ => match r with
    | [] => f x σ k
    | _ => f x σ fun t σ => match short op t with
      | true => k t σ
      | false => orT f op k r σ
noncomputable def mdotC (f : Expr → St → (D → St → Tr) → Tr) (args : List Expr) (x : Str) (k : V → St → Tr) (d : D) (σ : St) (q : Option Addr) : Tr := match q with
  | some a => mapC f args σ fun ds σ => askC a (d :: ds) σ k
  | none => lift (sget mts x) fun m => onB (ready m d σ) (mapC f args σ fun ds σ => metC m d ds σ fun d σ => k (.dat d) σ)
noncomputable def dotC (G : Cfg) (f : Expr → St → (D → St → Tr) → Tr) (args : List Expr) (x : Str) (k : V → St → Tr) (v : V) (σ : St) : Tr := match v with
  | .loc i => lift (sget mts x) fun m => onB (isLM m) (mapC f args σ fun ds σ => lift σ.lc[i]? fun l => lresC G.pm (locM m l ds) fun r => k (.dat r.1) { σ with lc := σ.lc.set i r.2 })
  | .dat d => mdotC f args x k d σ (methA G d x σ)
noncomputable def biC (f : Expr → St → (V → St → Tr) → Tr) (b : Bi) (es : List Expr) (σ : St) (k : V → St → Tr) : Tr := match es with
  | x :: r => match r with
    | [] => f x σ fun v σ => bi1 b v σ k
    | y :: t => match t with
      | [] => f x σ (onD fun v σ => f y σ (onD fun w σ => bi2 b v w fun d => k (.dat d) σ))
      | _ => .fail
  | [] => .fail
noncomputable def globC (f : Expr → St → (V → St → Tr) → Tr) (es : List Expr) (σ : St) (k : V → St → Tr) (g : D) : Tr := match g with
  | .ref a => mapC (fun e σ k => f e σ (onD k)) es σ fun ds σ => askC a ds σ k
  | .bi b => biC f b es σ k
  | _ => .fail
noncomputable def nameC (G : Cfg) (f : Expr → St → (V → St → Tr) → Tr) (x : Str) (es : List Expr) (σ : St) (k : V → St → Tr) : Tr := match G.gcls x with
  | some C => mapC (fun e σ k => f e σ (onD k)) es σ fun ds σ => newC G C ds σ k
  | none => lift (G.glob x) (globC f es σ k)
noncomputable def listC (z : Bool) (f : Expr → St → (V → St → Tr) → Tr) (es : List Expr) (σ : St) (k : V → St → Tr) : Tr := match z with
  | true => onB (chk es.length && okEs es) (mapC (fun e σ k => f e σ (onD k)) es σ fun ds σ => k (.dat (.cell σ.pi.length)) { σ with pi := σ.pi ++ [.lst ds] })
  | false => match es with
    | [] => k (.loc σ.lc.length) { σ with lc := σ.lc ++ [[]] }
    | _ => onB (chk es.length && okEs es) (mapC (fun e σ k => f e σ (onD k)) es σ fun ds σ => k (.dat (.lst ds)) σ)
noncomputable def subC (G : Cfg) (f : Expr → St → (V → St → Tr) → Tr) (i : Expr) (k : V → St → Tr) (q : Option (Option Expr × Option Expr × Option Expr)) (v : V) (σ : St) : Tr := match q with
  | some q => onB q.2.2.isNone (onD (fun d σ => partC (fun e σ k => f e σ (onD k)) q.1 σ fun x σ => partC (fun e σ k => f e σ (onD k)) q.2.1 σ fun y σ => primC G.pm (sliceD d x y) fun r => k (.dat r) σ) v σ)
  | none => f i σ (onD fun kd σ => primC G.pm (item v kd σ) fun d => k (.dat d) σ)
noncomputable def dispC (f : Expr → St → (V → St → Tr) → Tr) (keys : List (Option Expr)) (vals : List Expr) (σ : St) (k : V → St → Tr) : Tr := match keys with
  | [] => match vals with
    | [] => k (.dat (.cell σ.pi.length)) { σ with pi := σ.pi ++ [.dct [] []] }
    | _ => .fail
  | _ => lift (keyLit keys) fun cs => lift (constsD cs) fun ks => onB (dispOk ks vals.length) (mapC (fun e σ k => f e σ (onD k)) vals { σ with pi := σ.pi ++ [.dct [] []] } fun ds σ' =>
    onB (isEmpC σ'.pi[σ.pi.length]?) (k (.dat (.cell σ.pi.length)) { σ' with pi := σ'.pi.set σ.pi.length (.dct ks ds) }))
noncomputable def varC (G : Cfg) (ρ : Rho) (σ : St) (x : Str) (k : V → St → Tr) (q : Option NameKind) : Tr := match q with
  | some .local => lift (rget ρ x) fun v => k v σ
  | some .cell => lift (rget ρ x) fun v => k v σ
  | some .free => lift (rget ρ x) fun v => k v σ
  | some .globalImplicit => lift (G.glob x) fun d => k (.dat d) σ
  | _ => .fail
section
variable (G : Cfg)
mutual
noncomputable def cE : Nat → Scope → Expr → Rho → St → (V → St → Tr) → Tr
  | 0, _, _, _, _, _ => .fail
  | n + 1, sc, e, ρ, σ, k => match e with
    | .Constant c _ _ => match c with
      | .none => k (.dat .none) σ
      | .bool b => k (.dat (.bool b)) σ
      | .int i => k (.dat (.int i)) σ
      | .str s => onB (chk s.length) (k (.dat (.str s)) σ)
      | _ => .fail
    | .Name x _ => varC G ρ σ x k (kindIn sc.names x)
    | .Tuple es _ _ => onB (chk es.length && okEs es) (mapC (fun e σ k => cE n sc e ρ σ (onD k)) es σ fun ds σ => k (.dat (.tup ds)) σ)
    | .List es _ => listC G.zm (fun e σ k => cE n sc e ρ σ k) es σ k
    | .Dict keys vals _ => onB G.zm (dispC (fun e σ k => cE n sc e ρ σ k) keys vals σ k)
    | .BinOp l op r _ => cE n sc l ρ σ (onD fun a σ => cE n sc r ρ σ (onD fun b σ => binC op a b fun d => k (.dat d) σ))
    | .Compare l ops rs _ => lift (one ops) fun op => lift (one rs) fun r => onB (okE r) (cE n sc l ρ σ (onD fun a σ => cE n sc r ρ σ (onD fun b σ => cmpC G.zm (cmpS op a b σ) fun c => k (.dat (.bool c)) σ)))
    | .BoolOp op es _ => orC G (fun e σ k => cE n sc e ρ σ (onD k)) op (fun e σ => cE n sc e ρ σ k) k es σ
    | .UnaryOp op x _ => cE n sc x ρ σ (onD fun a σ => match op with
      | .Not => lift (truth (thaw σ a)) fun t => k (.dat (.bool (!t))) σ
      | .USub => lift (dInt a) fun i => k (.dat (.int (-i))) σ
      | _ => .fail)
    | .IfExp t a b _ => cT n sc t ρ σ fun c σ => match c with
      | true => cE n sc a ρ σ k
      | false => cE n sc b ρ σ k
    | .Subscript o i _ => cE n sc o ρ σ (subC G (fun e σ k => cE n sc e ρ σ k) i k (sliceOf i))
    | .Attribute o x _ => onB (plainBase o) (cE n sc o ρ σ (onD fun v σ => lift (attrD G v x σ) fun d => k (.dat d) σ))
    | .Call f args kws pos => match kws with
      | [] => match f with
        | .Attribute o x ap => onB (okEs args && (plainBase o && (ap.endLine == pos.line) && Nat.blt args.length 30)) (cE n sc o ρ σ fun v σ => dotC G (fun e σ k => cE n sc e ρ σ (onD k)) args x k v σ)
        | .Name x _ => onB (okEs args && isK .globalImplicit (kindIn sc.names x)) (nameC G (fun e σ k => cE n sc e ρ σ k) x args σ k)
        | _ => .fail
      | _ => .fail
    | .ListComp elt gens sc2 _ => lift (genOf gens) fun g => onB (compOk sc sc2 g.1 ρ && okE g.2) (cE n sc g.2 ρ σ (onD fun it σ => lift (itemsOf it) fun l => onB (chk l.length)
        (mapC (fun d σ k => cE n sc2 elt ((g.1, some (.dat d)) :: offLoc ρ) σ (onD k)) l ⟨σ.pi, []⟩ fun ds σ' => k (.dat (.lst ds)) ⟨σ'.pi, σ.lc⟩)))
    | _ => .fail
noncomputable def cT : Nat → Scope → Expr → Rho → St → (Bool → St → Tr) → Tr
  | 0, _, _, _, _, _ => .fail
  | n + 1, sc, e, ρ, σ, k => match e with
    | .UnaryOp op x _ => match op with
      | .Not => cT n sc x ρ σ fun b σ => k (!b) σ
      | _ => .fail
    | .BoolOp op es _ => orT (fun e σ k => cT n sc e ρ σ k) op k es σ
    | .Compare l ops rs _ => lift (one ops) fun op => lift (one rs) fun r => onB (okE r) (cE n sc l ρ σ (onD fun a σ => cE n sc r ρ σ (onD fun b σ => cmpC G.zm (cmpS op a b σ) fun c => testC G.tt c fun c => k c σ)))
    | .IfExp .. => .fail
    | e => cE n sc e ρ σ (onD fun a σ => lift (truth (thaw σ a)) fun t => k t σ)
end
noncomputable def cS : Nat → Scope → Stmt → Rho → St → (Out → Tr) → Tr
  | 0, _, _, _, _, _ => .fail
  | n + 1, sc, s, ρ, σ, k => match s with
    | .Assign ts value _ => lift (one ts) fun t => onB (okE value) (match t with
      | .Name x _ => cE G n sc value ρ σ fun v σ => lift (rsetL sc ρ x v) fun ρ' => k (none, ρ', σ)
      | .Subscript o i _ => cE G n sc value ρ σ (onD fun d σ => cE G n sc o ρ σ fun v σ => cE G n sc i ρ σ (onD fun kd σ => setC G.pm v kd d σ fun σ' => k (none, ρ, σ')))
      | .Attribute o x _ => cE G n sc value ρ σ (onD fun d σ => cE G n sc o ρ σ (onD fun v σ => lift (setAttr G v x d σ) fun σ' => k (none, ρ, σ')))
      | .Tuple es kk p => onB (!isTupE value) (cE G n sc value ρ σ (onD fun d σ => lift (bindTo sc (.Tuple es kk p) d ρ) fun ρ' => k (none, ρ', σ)))
      | _ => .fail)
    | .AugAssign t op value _ => lift (nameOf t) fun x => onB (isK .local (kindIn sc.names x)) (lift (rget ρ x) fun old => onD (fun a σ => lift (dInt a) fun i => cE G n sc value ρ σ (onD fun b σ => match op with
        | .Add => lift (dInt b) fun j => lift (rset ρ x (.dat (.int (i + j)))) fun ρ' => k (none, ρ', σ)
        | _ => .fail)) old σ)
    | .If test body orelse _ => cT G n sc test ρ σ fun b σ => match b with
      | true => seqC (cS n sc) body ρ σ k
      | false => seqC (cS n sc) orelse ρ σ k
    | .For t iter body orelse _ => match orelse with
      | [] => onB (okE iter) (cE G n sc iter ρ σ (onD fun it σ => lift (itemsOf it) fun l => loopC G.u (fun d ρ σ k => lift (bindTo sc t d ρ) fun ρ' => seqC (cS n sc) body ρ' σ k) l ρ σ k))
      | _ => .fail
    | .While test body orelse _ => match orelse with
      | [] => .wl (fun ρ σ => cT G n sc test ρ σ endT) (fun ρ σ => seqC (cS n sc) body ρ σ .done) n ρ σ k
      | _ => .fail
    | .Return v _ => lift v fun e => cE G n sc e ρ σ fun v σ => k (some v, ρ, σ)
    | .Expr e _ => onB (okE e && noLC e) (cE G n sc e ρ σ fun _ σ => k (none, ρ, σ))
    | _ => .fail
noncomputable def cB (n : Nat) (sc : Scope) (l : List Stmt) (ρ : Rho) (σ : St) (k : Out → Tr) : Tr := seqC (cS G n sc) l ρ σ k
end
abbrev CRel := Addr → List D → List Cell → D → List Cell → Prop
noncomputable def loopW (T B : Rho → St → Out → Prop) : Nat → Rho → St → Out → Prop
  | 0, _, _, _ => False
  | n + 1, ρ, σ, o => (∃ ρ0 σ', T ρ σ (some (.dat (.bool false)), ρ0, σ') ∧ o = (none, ρ, σ')) ∨ ∃ ρ0 σ1 ρ2 σ2, T ρ σ (some (.dat (.bool true)), ρ0, σ1) ∧ B ρ σ1 (none, ρ2, σ2) ∧ loopW T B n ρ2 σ2 o
noncomputable def loopF (B : D → Rho → St → Out → Prop) : List D → Rho → St → Out → Prop
  | [], ρ, σ, o => o = (none, ρ, σ)
  | d :: r, ρ, σ, o => ∃ ρ1 σ1, B d ρ σ (none, ρ1, σ1) ∧ loopF B r ρ1 σ1 o
noncomputable def Run (C : CRel) : Tr → Out → Prop
  | .fail, _ => False
  | .done o, R => o = R
  | .ask a args pi k, R => ∃ d pi', C a args pi d pi' ∧ Run C (k d pi') R
  | .need b k, R => b = true ∧ Run C k R
  | .test b k, R => Run C (k b) R
  | .prim x k, R => ∃ d, x = some d ∧ Run C (k d) R
  | .lres x k, R => ∃ p, x = some p ∧ Run C (k p) R
  | .wl t b n ρ σ k, R => ∃ o, loopW (fun ρ σ o => Run C (t ρ σ) o) (fun ρ σ o => Run C (b ρ σ) o) n ρ σ o ∧ Run C (k o) R
  | .loop b l ρ σ k, R => ∃ o, loopF (fun d ρ σ o => Run C (b d ρ σ) o) l ρ σ o ∧ Run C (k o) R
end Mine
end
namespace Mine.Z
open PySem PySem.W PyProof.Rows PySem.Calls
variable {prog : Program} {w : World} {A : Around} {E : Value → Shared → Prop} {s : Shared}
inductive EqL (prog : Program) (w : World) (P : Around → Prop) (s : Shared) : List Value → List Value → Bool → Prop
  | nil : EqL prog w P s [] [] true
  | less {y : Value} {ys : List Value} : EqL prog w P s [] (y :: ys) false
  | more {x : Value} {xs : List Value} : EqL prog w P s (x :: xs) [] false
  | ne {x y : Value} {xs ys : List Value} : (∀ (A : Around) (Q : Bool → Shared → Prop) (E : Value → Shared → Prop), P A → Q false s → wpAny (model prog w) A (PySem.eqBool x y) Q E s) → EqL prog w P s (x :: xs) (y :: ys) false
  | eq {x y : Value} {xs ys : List Value} {r : Bool} : (∀ (A : Around) (Q : Bool → Shared → Prop) (E : Value → Shared → Prop), P A → Q true s → wpAny (model prog w) A (PySem.eqBool x y) Q E s) → EqL prog w P s xs ys r → EqL prog w P s (x :: xs) (y :: ys) r
noncomputable def TupIt (h : Heap) (a : Addr) (l : List Value) : Prop := ∃ o items n, h.get? a = some o ∧ o.cls = .type "tuple" ∧ o.data = .seq items n ∧ items.toList = l
theorem TupIt.typeIs {a : Addr} {l : List Value} (x : TupIt s.heap a l) : s.TypeIs (.ref a) "tuple" := let ⟨o, _, _, ho, hc, _⟩ := x; ⟨o, ho, hc⟩
theorem eq_tree {P : Around → Prop} {A : Around} (pa : P A) {xs ys : List Value} {r : Bool} {a b : Addr} {R : Fin → Shared → Prop} (hx : TupIt s.heap a xs) (hy : TupIt s.heap b ys) (e : EqL prog w P s xs ys r) (h : R (.done (.ret (.bool r))) s) :
    wpAny (model prog w) A (Builtin.«tuple.__eq__» ⟨[.ref a, .ref b], []⟩) R E s := by
  have hTb := hy.typeIs
  obtain ⟨oa, ia, na, hoa, _, hda, rfl⟩ := hx
  obtain ⟨ob, ib, nb, hob, _, hdb, rfl⟩ := hy
  show wpAny _ _ (isInstance (.ref b) (.type "tuple") >>= _) _ _ s
  refine wpAny_bind (wpAny_isInstance hTb isSubtype_tuple_tuple ?_)
  simp only [Bool.not_true, Bool.false_eq_true, if_false]
  refine wpAny_bind (wpAny_tupleItemsOf hoa hda ?_)
  refine wpAny_bind (wpAny_tupleItemsOf hob hdb ?_)
  refine wpAny_bind ?_
  refine wpAny_forIn_list _
    (fun rest q s' => q.1 = none ∧ s' = s ∧ ∃ xs' ys', rest = List.zip xs' ys' ∧ EqL prog w P s xs' ys' r ∧ (xs'.length == ys'.length) = (ia.size == ib.size))
    _ ?_ ?_ _ _ ⟨rfl, rfl, ia.toList, ib.toList, rfl, e, by simp⟩
  · rintro ⟨u, v⟩ rest q s' ⟨hr, rfl, xs', ys', hz, he, hlen⟩
    cases he with
    | nil => simp at hz
    | less => simp at hz
    | more => simp at hz
    | @ne x y xs'' ys'' hb =>
      simp only [List.zip_cons_cons, List.cons.injEq, Prod.mk.injEq] at hz
      obtain ⟨⟨rfl, rfl⟩, rfl⟩ := hz
      refine wpAny_bind (hb _ _ _ pa ?_)
      simp only [Bool.not_false, if_true]
      exact wpAny_bind (wpAny_pure (wpAny_pure (wpAny_pure h)))
    | @eq x y xs'' ys'' r' hb he' =>
      simp only [List.zip_cons_cons, List.cons.injEq, Prod.mk.injEq] at hz
      obtain ⟨⟨rfl, rfl⟩, rfl⟩ := hz
      refine wpAny_bind (hb _ _ _ pa ?_)
      simp only [Bool.not_true, Bool.false_eq_true, if_false]
      exact wpAny_pure ⟨rfl, rfl, xs'', ys'', rfl, he', by simpa using hlen⟩
  · rintro ⟨r1, r2⟩ s' ⟨hr, rfl, xs', ys', hz, he, hlen⟩
    simp only at hr
    subst hr
    refine wpAny_pure ?_
    show R (.done (.ret (.bool (ia.size == ib.size)))) s'
    rw [← hlen]
    cases he with
    | nil => exact h
    | less => exact h
    | more => exact h
    | ne hb => simp at hz
    | eq hb he' => simp at hz
theorem eq_tups {P : Around → Prop} (pa : P A.in1) {xs ys : List Value} {r : Bool} {a b : Addr} {Q : Bool → Shared → Prop} (hu : A.units < cLine) (hx : TupIt s.heap a xs) (hy : TupIt s.heap b ys) (hab : a ≠ b) (e : EqL prog w P s xs ys r) (h : Q r s) :
    wpAny (model prog w) A (PySem.eqBool (.ref a) (.ref b)) Q E s := by
  unfold PySem.eqBool
  try with_reducible refine wpAny_holding ?_
  show wpAny _ _ (if (Value.ref a == Value.ref b) = true then _ else _) Q E s
  rw [if_neg (by intro w; have := eq_of_beq w; injection this with q; exact hab q)]
  exact wpAny_bind (wpAny_richCompare_same_room (op := .Eq) hx.typeIs hy.typeIs F.slot_tuple_eq
      (wpAny_call_entry F.slot_tuple_eq hx.typeIs F.entry_tuple_eq (eq_tree pa hx hy e ⟨_, rfl, (fun e => nomatch e), wpAny_truthy_bool h⟩) (F.args_tuple_eq_2 _ _)) hu)
theorem eq_self {a : Addr} {Q : Bool → Shared → Prop} (h : Q true s) : wpAny (model prog w) A (PySem.eqBool (.ref a) (.ref a)) Q E s := by
  unfold PySem.eqBool
  try with_reducible refine wpAny_holding ?_
  show wpAny _ _ (if (Value.ref a == Value.ref a) = true then _ else _) Q E s
  rw [if_pos (by simp)]
  exact wpAny_bind (wpAny_rule (wpAny_pure h))
end Mine.Z
namespace Mine.Z
open PySem PySem.W PyProof.Rows PySem.Calls
variable {prog : Program} {w : World} {A : Around} {E : Value → Shared → Prop} {s : Shared}
inductive HsL (prog : Program) (w : World) (P : Around → Prop) (h : Heap) : List Value → List Int → Nat → Prop
  | nil : HsL prog w P h [] [] 0
  | cons {x : Value} {xs : List Value} {i : Int} {is : List Int} {d n : Nat} : (∀ (A : Around) (s : Shared) (Q : Int → Shared → Prop) (E : Value → Shared → Prop), P A → s.heap = h → Q i { s with toks := s.toks + d } → wpAny (model prog w) A (PySem.pyHash x) Q E s) → HsL prog w P h xs is n → HsL prog w P h (x :: xs) (i :: is) (d + n)
theorem hash_tup {P : Around → Prop} (pa : P A.in1) {xs : List Value} {is : List Int} {n : Nat} {a : Addr} {Q : Int → Shared → Prop} (hu : A.units < cLine) (hx : TupIt s.heap a xs) (e : HsL prog w P s.heap xs is n)
    (h : Q (reduceHash (Builtin.Tuple.tupleHashOf is)) { s with toks := s.toks + (n + 1) }) : wpAny (model prog w) A (PySem.pyHash (.ref a)) Q E s := by
  have hT := hx.typeIs
  obtain ⟨o, items, n', ho, _, hd, rfl⟩ := hx
  unfold PySem.pyHash
  first | unfold pyHashByItsType | skip
  first | refine wpAny_bind (wpAny_cRoomFor_or (.inr hu) ?_) | skip
  refine wpAny_bind (wpAny_specialOf hT F.slot_tuple_hash.lookup ?_)
  show wpAny _ _ (if (some (Value.builtin "tuple.__hash__") == some Value.none) = true then _ else _) Q E s
  rw [if_neg (by rw [beq_builtin_none]; exact Bool.false_ne_true)]
  refine wpAny_bind (wpAny_specialOf hT F.slot_tuple_hash.lookup ?_)
  show wpAny _ _ (callSpecialIfBoundUnlessNone? (.ref a) "__hash__" _ >>= _) Q E s
  refine wpAny_bind (wpAny_callSpecialIfBoundUnlessNone?_slot hT F.slot_tuple_hash (wpAny_call_entry F.slot_tuple_hash hT F.entry_tuple_hash ?_ (F.args_tuple_hash_1 _)))
  show wpAny _ _ (Builtin.Tuple.tupleItemsOf (.ref a) >>= _) _ _ s
  refine wpAny_bind (wpAny_tupleItemsOf ho hd ?_)
  refine wpAny_bind ?_
  rw [← Array.forIn_toList]
  refine wpAny_forIn_list _
    (fun rest (b : Array Int) s' => ∃ done left m k, is = done ++ left ∧ n = k + m ∧ HsL prog w P s.heap rest left m ∧ b.toList = done ∧ s' = { s with toks := s.toks + k })
    _ ?_ ?_ _ _ ⟨[], is, n, 0, rfl, (Nat.zero_add n).symm, e, rfl, rfl⟩
  · rintro x rest b s' ⟨done, left, m, k, rfl, hn, hl, hb, rfl⟩
    cases hl with
    | @cons _ _ i is' d m' h1 hl' =>
      refine wpAny_bind (h1 _ _ _ _ pa rfl ?_)
      first
        | exact wpAny_pure ⟨done ++ [i], is', m', k + d, by simp, by omega, hl', by simp [hb], by simp [Nat.add_assoc]⟩
        | exact wpAny_bind (wpAny_pure (wpAny_pure ⟨done ++ [i], is', m', k + d, by simp, by omega, hl', by simp [hb], by simp [Nat.add_assoc]⟩))
  · rintro b s' ⟨done, left, m, k, rfl, hn, hl, hb, rfl⟩
    cases hl
    rw [List.append_nil] at h
    have hn : n = k := by omega
    subst hn
    show wpAny _ _ (retInt (Builtin.Tuple.tupleHashOf b.toList)) _ _ _
    rw [hb]
    refine wpAny_ret_mkInt ?_
    show wpAny _ _ (if (decide (-(2 : Int) ^ 63 ≤ Builtin.Tuple.tupleHashOf done) && decide (Builtin.Tuple.tupleHashOf done < 2 ^ 63)) = true then _ else _) Q E _
    unfold reduceHash at h
    by_cases hr : (decide (-(2 : Int) ^ 63 ≤ Builtin.Tuple.tupleHashOf done) && decide (Builtin.Tuple.tupleHashOf done < 2 ^ 63)) = true
    · rw [if_pos hr]
      rw [if_pos hr] at h
      exact wpAny_pure (by simpa [Nat.add_assoc] using h)
    · rw [if_neg hr]
      rw [if_neg hr] at h
      exact wpAny_bind (wpAny_rule (wpAny_pure (by simpa [Nat.add_assoc] using h)))
inductive Quiet (prog : Program) (w : World) (h : Heap) (n : Nat) : Value → Prop
  | mk {v : Value} : (∀ (A : Around) (s : Shared) (Q : Bool → Shared → Prop) (E : Value → Shared → Prop), s.heap = h → Q true s → wpAny (model prog w) A (eqIsQuiet n v) Q E s) → Quiet prog w h n v
theorem quiet_tup {n : Nat} {xs : List Value} {a : Addr} {Q : Bool → Shared → Prop} (hx : TupIt s.heap a xs) (e : ∀ v ∈ xs, Quiet prog w s.heap n v) (h : Q true s) : wpAny (model prog w) A (eqIsQuiet (n + 1) (.ref a)) Q E s := by
  have hT := hx.typeIs
  obtain ⟨o, items, n', ho, _, hd, rfl⟩ := hx
  unfold eqIsQuiet
  refine wpAny_bind (wpAny_specialOf hT F.slot_tuple_eq.lookup ?_)
  show wpAny _ _ (isInstance (.ref a) (.type "tuple") >>= _) _ _ s
  refine wpAny_bind (wpAny_isInstance hT isSubtype_tuple_tuple ?_)
  simp only [Bool.not_true, Bool.false_eq_true, if_false]
  refine wpAny_bind (wpAny_seqItems ho hd ?_)
  refine wpAny_bind ?_
  show wpAny _ _ (forIn items _ _) _ _ s
  rw [← Array.forIn_toList]
  refine wpAny_forIn_list _ (fun rest r s' => r.1 = none ∧ s' = s ∧ ∀ v ∈ rest, Quiet prog w s.heap n v) _ ?_ ?_ _ _ ⟨rfl, rfl, e⟩
  · rintro v rest r s' ⟨hr, rfl, hall⟩
    obtain ⟨hq⟩ := hall v List.mem_cons_self
    refine wpAny_bind (hq _ _ _ _ rfl ?_)
    simp only [Bool.not_true, Bool.false_eq_true, if_false]
    exact wpAny_pure ⟨rfl, rfl, fun u hu' => hall u (List.mem_cons_of_mem _ hu')⟩
  · rintro ⟨r1, r2⟩ s' ⟨hr, rfl, _⟩
    simp only at hr
    subst hr
    exact wpAny_pure h
noncomputable def RowAt (prog : Program) (w : World) (h : Heap) (k : RK) (a : Addr) : Prop := ∃ v u, Value.isInt k.1 v = true ∧ Value.isInt k.2.1 u = true ∧ match k.2.2 with
  | none => TupIt h a [v, u]
  | some l => ∃ b, a ≠ b ∧ TupIt h a [v, u, .ref b] ∧ IsTupleKey (intKind prog w) h l b
noncomputable def rowHash (prog : Program) (w : World) (k : RK) : Int := match k.2.2 with
  | none => reduceHash (Builtin.Tuple.tupleHashOf [hashInt k.1, hashInt k.2.1])
  | some l => reduceHash (Builtin.Tuple.tupleHashOf [hashInt k.1, hashInt k.2.1, tupleKeyHash (intKind prog w) l])
noncomputable def rowDraws (k : RK) : Nat := match k.2.2 with
  | none => 3
  | some l => l.length + 4
theorem isInt_inj {v : Value} {i j : Int} (h1 : Value.isInt i v = true) (h2 : Value.isInt j v = true) : i = j := by
  cases v <;> simp [Value.isInt] at h1 h2
  omega
theorem TupIt.inj {h : Heap} {a : Addr} {l m : List Value} (x : TupIt h a l) (y : TupIt h a m) : l = m := by
  obtain ⟨o, i, n, ho, _, hd, rfl⟩ := x
  obtain ⟨o', i', n', ho', _, hd', rfl⟩ := y
  rw [ho] at ho'; cases ho'
  rw [hd] at hd'; cases hd'; rfl
theorem RowAt.inj {h : Heap} {a : Addr} {x y : RK} (hx : RowAt prog w h x a) (hy : RowAt prog w h y a) : x = y := by
  obtain ⟨x1, x2, x3⟩ := x
  obtain ⟨y1, y2, y3⟩ := y
  obtain ⟨v, u, a1, a2, a3⟩ := hx
  obtain ⟨v', u', b1, b2, b3⟩ := hy
  dsimp only at a1 a2 a3 b1 b2 b3
  cases x3 with
  | none =>
    cases y3 with
    | none =>
      have := a3.inj b3
      cases this
      rw [isInt_inj a1 b1, isInt_inj a2 b2]
    | some l =>
      obtain ⟨b, _, b3, _⟩ := b3
      have := a3.inj b3
      cases this
  | some l =>
    obtain ⟨b, _, a3, a4⟩ := a3
    cases y3 with
    | none => have := a3.inj b3; cases this
    | some l' =>
      obtain ⟨b', _, b3, b4⟩ := b3
      have := a3.inj b3
      cases this
      rw [isInt_inj a1 b1, isInt_inj a2 b2, a4.inj b4]
theorem TupIt.keeps {h h' : Heap} {a d : Addr} {l : List Value} {o : Obj} {es ep} (x : TupIt h a l) (ho : h.get? d = some o) (hd : o.data = .dict es ep) (hs : Heap.SameBut d h h') : TupIt h' a l := by
  obtain ⟨o', items, n, ho', hc, hd', hi⟩ := x
  have hne : a ≠ d := by
    rintro rfl
    rw [ho'] at ho; cases ho
    rw [hd'] at hd; cases hd
  exact ⟨o', items, n, (hs.2 a hne).trans ho', hc, hd', hi⟩
theorem int_hash {P : Around → Prop} {h : Heap} {v : Value} {i : Int} (e : Value.isInt i v = true) : ∀ (A : Around) (s : Shared) (Q : Int → Shared → Prop) (E : Value → Shared → Prop), P A → s.heap = h → Q (hashInt i) { s with toks := s.toks + 1 } → wpAny (model prog w) A (PySem.pyHash v) Q E s :=
  fun _ _ _ _ _ _ q => (intKind prog w).pyHash e q
theorem int_quiet {h : Heap} {n : Nat} {v : Value} {i : Int} (e : Value.isInt i v = true) : Quiet prog w h n v := ⟨fun A s Q E _ q => by
  rw [eqIsQuiet_byValue n ((intKind prog w).byValue i v e)]
  exact wpAny_pure q⟩
theorem int_eq {P : Around → Prop} {s : Shared} {v u : Value} {i j : Int} (e : Value.isInt i v = true) (f : Value.isInt j u = true) : ∀ (A : Around) (Q : Bool → Shared → Prop) (E : Value → Shared → Prop), P A → Q (decide (i = j)) s → wpAny (model prog w) A (PySem.eqBool v u) Q E s :=
  fun _ _ _ _ q => (intKind prog w).eqBool e f q
theorem key_it {h : Heap} {l : List Int} {b : Addr} (x : IsTupleKey (intKind prog w) h l b) : ∃ vs, TupIt h b vs ∧ ∀ v ∈ vs, ∃ i, Value.isInt i v = true := by
  obtain ⟨o, items, n, ho, hc, hd, hi⟩ := x
  refine ⟨items.toList, ⟨o, items, n, ho, hc, hd, rfl⟩, ?_⟩
  generalize items.toList = l' at hi
  intro v hv
  induction hi with
  | nil => cases hv
  | cons h1 _ ih =>
    rcases List.mem_cons.mp hv with rfl | hv
    · exact ⟨_, h1⟩
    · exact ih hv
end Mine.Z
namespace Mine.Z
open PySem PySem.W PyProof.Rows PySem.Calls
variable {prog : Program} {w : World} {A : Around} {E : Value → Shared → Prop} {s : Shared}
theorem row_keeps {h h' : Heap} {k : RK} {a d : Addr} {o : Obj} {es ep} (x : RowAt prog w h k a) (ho : h.get? d = some o) (hd : o.data = .dict es ep) (hs : Heap.SameBut d h h') : RowAt prog w h' k a := by
  obtain ⟨k1, k2, k3⟩ := k
  obtain ⟨v, u, a1, a2, a3⟩ := x
  refine ⟨v, u, a1, a2, ?_⟩
  cases k3 with
  | none => exact a3.keeps ho hd hs
  | some l =>
    obtain ⟨b, ab, a3, a4⟩ := a3
    exact ⟨b, ab, a3.keeps ho hd hs, a4.keeps ho hd hs⟩
abbrev Lim (A : Around) : Prop := A.units < cLine
theorem row_hash {k : RK} {a : Addr} {Q : Int → Shared → Prop} (hu : A.units + 1 < cLine) (x : RowAt prog w s.heap k a) (h : Q (rowHash prog w k) { s with toks := s.toks + rowDraws k }) : wpAny (model prog w) A (PySem.pyHash (.ref a)) Q E s := by
  obtain ⟨k1, k2, k3⟩ := k
  obtain ⟨v, u, a1, a2, a3⟩ := x
  dsimp only at a1 a2 a3
  have pa : Lim A.in1 := hu
  cases k3 with
  | none => exact hash_tup (P := Lim) pa (by omega) a3 (.cons (int_hash a1) (.cons (int_hash a2) .nil)) h
  | some l =>
    obtain ⟨b, ab, a3, a4⟩ := a3
    refine hash_tup (P := Lim) pa (n := 1 + (1 + (l.length + 1 + 0))) (by omega) a3 (.cons (int_hash a1) (.cons (int_hash a2) (.cons (fun A s' Q E pa e q => wpAny_pyHash_tuple pa (by rw [e]; exact a4) q) .nil))) ?_
    have : 1 + (1 + (l.length + 1 + 0)) + 1 = rowDraws (k1, k2, some l) := by show _ = l.length + 4; omega
    rw [this]; exact h
theorem row_eq {x y : RK} {a b : Addr} {Q : Bool → Shared → Prop} (hu : A.units + 1 < cLine) (hx : RowAt prog w s.heap x a) (hy : RowAt prog w s.heap y b) (h : Q (decide (x = y)) s) : wpAny (model prog w) A (PySem.eqBool (.ref a) (.ref b)) Q E s := by
  by_cases hab : a = b
  · subst hab
    have := hx.inj hy
    subst this
    exact eq_self (by simpa using h)
  obtain ⟨x1, x2, x3⟩ := x
  obtain ⟨y1, y2, y3⟩ := y
  obtain ⟨v, u, a1, a2, a3⟩ := hx
  obtain ⟨v', u', b1, b2, b3⟩ := hy
  dsimp only at a1 a2 a3 b1 b2 b3
  have pa : Lim A.in1 := hu
  have hu' : A.units < cLine := by omega
  have e1 := int_eq (prog := prog) (w := w) (P := Lim) (s := s) a1 b1
  have e2 := int_eq (prog := prog) (w := w) (P := Lim) (s := s) a2 b2
  have go : ∀ (ls ms : List Value) (r : Bool), EqL prog w Lim s ls ms r → (decide (x1 = y1) && (decide (x2 = y2) && r)) = decide ((x1, x2, x3) = (y1, y2, y3)) → EqL prog w Lim s (v :: u :: ls) (v' :: u' :: ms) (decide ((x1, x2, x3) = (y1, y2, y3))) := fun ls ms r hr he => by
    rw [← he]
    by_cases q1 : x1 = y1
    · rw [decide_eq_true q1] at e1 ⊢
      by_cases q2 : x2 = y2
      · rw [decide_eq_true q2] at e2 ⊢
        exact .eq e1 (.eq e2 (by simpa using hr))
      · rw [decide_eq_false q2] at e2 ⊢
        exact .eq e1 (.ne e2)
    · rw [decide_eq_false q1] at e1 ⊢
      exact .ne e1
  cases x3 with
  | none =>
    cases y3 with
    | none => exact eq_tups pa hu' a3 b3 hab (go [] [] true .nil (by simp)) h
    | some l =>
      obtain ⟨c, _, b3, b4⟩ := b3
      exact eq_tups pa hu' a3 b3 hab (go [] [.ref c] false .less (by simp)) h
  | some l =>
    obtain ⟨c, _, a3, a4⟩ := a3
    cases y3 with
    | none => exact eq_tups pa hu' a3 b3 hab (go [.ref c] [] false .more (by simp)) h
    | some m =>
      obtain ⟨d, _, b3, b4⟩ := b3
      refine eq_tups pa hu' a3 b3 hab (go [.ref c] [.ref d] (decide (l = m)) ?_ (by simp)) h
      have e3 : ∀ (A : Around) (Q : Bool → Shared → Prop) (E : Value → Shared → Prop), Lim A → Q (decide (l = m)) s → wpAny (model prog w) A (PySem.eqBool (.ref c) (.ref d)) Q E s := fun A Q E pa q => wpAny_eqBool_tuple pa a4 b4 q
      by_cases q : l = m
      · rw [decide_eq_true q] at e3 ⊢
        exact .eq e3 .nil
      · rw [decide_eq_false q] at e3 ⊢
        exact .ne e3
theorem row_quiet {k : RK} {a : Addr} {Q : Bool → Shared → Prop} (x : RowAt prog w s.heap k a) (h : Q true s) : wpAny (model prog w) A (eqIsQuiet 8 (.ref a)) Q E s := by
  obtain ⟨k1, k2, k3⟩ := k
  obtain ⟨v, u, a1, a2, a3⟩ := x
  dsimp only at a1 a2 a3
  cases k3 with
  | none =>
    refine quiet_tup a3 (fun z hz => ?_) h
    simp at hz
    rcases hz with rfl | rfl
    · exact int_quiet a1
    · exact int_quiet a2
  | some l =>
    obtain ⟨b, ab, a3, a4⟩ := a3
    refine quiet_tup a3 (fun z hz => ?_) h
    simp at hz
    rcases hz with rfl | rfl | rfl
    · exact int_quiet a1
    · exact int_quiet a2
    · obtain ⟨vs, h1, h2⟩ := key_it a4
      exact ⟨fun A s' Q E e q => quiet_tup (n := 6) (by rw [e]; exact h1) (fun v hv => let ⟨i, hi⟩ := h2 v hv; int_quiet hi) q⟩
noncomputable def rowKind (prog : Program) (w : World) : HeapKind prog w RK where
  is := RowAt prog w
  hash := rowHash prog w
  draws := rowDraws
  room := fun A => A.units + 1 < cLine
  inj := fun hx hy => hx.inj hy
  keeps := fun x ho hd hs => row_keeps x ho hd hs
  pyHash := fun hu hk h => row_hash hu hk h
  eqBool := fun hu hx hy h => row_eq hu hx hy h
  quiet := fun hk h => row_quiet hk h
end Mine.Z
noncomputable section
namespace Mine
open PySem PySem.W PyProof.Rows PySem.Calls
noncomputable def Bi.val : Bi → Value
  | .len => .builtin "len"
  | .range => .type "range"
  | .isinst => .builtin "isinstance"
  | .strT => .type "str"
  | .chr => .builtin "chr"
  | .max => .builtin "max"
  | .listT => .type "list"
  | .tupleT => .type "tuple"
  | .min => .builtin "min"
  | .dictT => .type "dict"
structure Wd where
  prog : Program
  w : World
  hb : Heap
noncomputable def PTup (h : Heap) (a : Addr) (l : List Value) : Prop := ∃ n, h.get? a = some { cls := .type "tuple", data := .seq l.toArray n }
theorem PTup.tup {h : Heap} {a : Addr} {l : List Value} (x : PTup h a l) : IsTup h a l.toArray := let ⟨n, e⟩ := x; ⟨_, e, rfl, n, rfl⟩
abbrev Lg := List (Addr × Addr)
noncomputable def fl (M : Lg) (a : Addr) : Prop := ∃ p, p ∈ M ∧ (a = p.1 ∨ a = p.2)
noncomputable def EmpO (h : Heap) (a : Addr) : Prop := ∃ o ep, h.get? a = some o ∧ o.ExactDict ∧ o.data = .dict #[] ep
inductive Keyed (X : Wd) (h : Heap) (a : Addr) (ks : List D) (vs : List Value) : Prop
  | int {is : List Int} : ks = is.map D.int → h.DictOf (intKind X.prog X.w) a (is.zip vs) → Keyed X h a ks vs
  | str {is : List Str} : ks = is.map D.str → h.DictOf (strKind X.prog X.w) a (is.zip vs) → Keyed X h a ks vs
inductive Own (h : Heap) (x dx C : Addr) (ns : List Str) (vs : List Value) : Prop
  | mk {ox es n} : ox.dict = some dx → InstAt h x ox C (some (dictOf es n)) → es.length = vs.length → (∀ y, getL y es = some ((ns.zip vs).lookup y)) → (∀ v ∈ vs, handedIn v = true) → Own h x dx C ns vs
inductive RStr (x : Str) (v : Value) : Prop
  | mk {t} : v = .str x t → x.length ≤ sizeLine → RStr x v
inductive RSeq (S : Addr → List Value → Prop) (N : Addr → Prop) (n : Nat) (rs : List Value → Prop) (v : Value) : Prop
  | mk {a vs} : v = .ref a → ¬ N a → S a vs → n ≤ sizeLine → rs vs → RSeq S N n rs v
inductive RDct (X : Wd) (N : Addr → Prop) (h : Heap) (ks ds : List D) (rs : List Value → Prop) (v : Value) : Prop
  | mk {a vs} : v = .ref a → ¬ N a → (a == sysModules) = false → Keyed X h a ks vs → ks.length = ds.length → rs vs → RDct X N h ks ds rs v
inductive RObj (N : Addr → Prop) (h : Heap) (C : Addr) (ns : List Str) (ds : List D) (rs : List Value → Prop) (v : Value) : Prop
  | mk {x dx vs} : v = .ref x → ¬ N x → ¬ N dx → Own h x dx C ns vs → ns.length = ds.length → rs vs → RObj N h C ns ds rs v
inductive RRng (N : Addr → Prop) (h : Heap) (n : Int) (v : Value) : Prop
  | mk {a t u w} : v = .ref a → ¬ N a → IsRange h a 0 n 1 t u w → small n = true → RRng N h n v
inductive RCell (M : Lg) (i : Nat) (v : Value) : Prop
  | mk {p} : M[i]? = some p → v = .ref p.1 → RCell M i v
inductive RRef (X : Wd) (a : Addr) (v : Value) : Prop
  | mk {o fd} : v = .ref a → X.hb.get? a = some o → o.data = .func fd → RRef X a v
inductive RCons (r : Value → Prop) (rs : List Value → Prop) (vs : List Value) : Prop
  | mk {v us} : vs = v :: us → r v → rs us → RCons r rs vs
section
variable (X : Wd) (M : Lg) (N : Addr → Prop) (h : Heap)
mutual
noncomputable def Rep : Value → D → Prop
  | v, .none => v = .none
  | v, .bool b => v = .bool b
  | v, .int i => ∃ t, v = .int i t
  | v, .str x => RStr x v
  | v, .tup l => RSeq (PTup h) N l.length (fun vs => Reps vs l) v
  | v, .lst l => RSeq (fun a vs => h.IsList a vs.toArray) N l.length (fun vs => Reps vs l) v
  | v, .dct ks ds => RDct X N h ks ds (fun vs => Reps vs ds) v
  | v, .obj C ns ds => RObj N h C ns ds (fun vs => Reps vs ds) v
  | v, .ref a => RRef X a v
  | v, .bi b => v = b.val
  | v, .rng n => RRng N h n v
  | v, .cell i => RCell M i v
  | _, .any => True
noncomputable def Reps : List Value → List D → Prop
  | vs, [] => vs = []
  | vs, d :: r => RCons (fun v => Rep v d) (fun us => Reps us r) vs
end
end
variable {X : Wd} {M M' : Lg} {N N' : Addr → Prop} {h h' : Heap}
noncomputable def KeptN (N : Addr → Prop) (h h' : Heap) : Prop := ∀ b o, ¬ N b → h.get? b = some o → h'.get? b = some o
noncomputable def Grown (N N' : Addr → Prop) (h : Heap) : Prop := ∀ a, N' a → N a ∨ h.get? a = none
theorem off_of (g : Grown N N' h) {a : Addr} {o : Obj} (n : ¬ N a) (e : h.get? a = some o) : ¬ N' a := fun q => (g a q).elim n fun x => by rw [e] at x; cases x
theorem dictOf_at {K : Type} [DecidableEq K] {prog : Program} {w : World} {knd : KeyKind prog w K} {a : Addr} {kvs : List (K × Value)} (m : h.DictOf knd a kvs) (k : ∀ o, h.get? a = some o → h'.get? a = some o) : h'.DictOf knd a kvs :=
  let ⟨o, es, ep, ho, r⟩ := m; ⟨o, es, ep, k o ho, r⟩
theorem Keyed.at {a : Addr} {ks : List D} {vs : List Value} (m : Keyed X h a ks vs) (k : ∀ o, h.get? a = some o → h'.get? a = some o) : Keyed X h' a ks vs :=
  by cases m with | int e d => exact .int e (dictOf_at d k) | str e d => exact .str e (dictOf_at d k)
theorem Keyed.there {a : Addr} {ks : List D} {vs : List Value} (m : Keyed X h a ks vs) : ∃ o, h.get? a = some o := by
  cases m with | int _ d => obtain ⟨o, _, _, e, _⟩ := d; exact ⟨o, e⟩ | str _ d => obtain ⟨o, _, _, e, _⟩ := d; exact ⟨o, e⟩
theorem Own.at {x dx C : Addr} {ns : List Str} {vs : List Value} (m : Own h x dx C ns vs) (k1 : ∀ o, h.get? x = some o → h'.get? x = some o) (k2 : ∀ o, h.get? dx = some o → h'.get? dx = some o) : Own h' x dx C ns vs := by
  obtain ⟨hd, ⟨a, b, c, d⟩, l, r1, r2⟩ := m
  rw [hd] at d
  exact .mk hd ⟨k1 _ a, b, c, by rw [hd]; exact k2 _ d⟩ l r1 r2
theorem Own.there {x dx C : Addr} {ns : List Str} {vs : List Value} (m : Own h x dx C ns vs) : (∃ o, h.get? x = some o) ∧ ∃ o, h.get? dx = some o := by
  obtain ⟨hd, ⟨a, b, c, d⟩, _⟩ := m
  rw [hd] at d
  exact ⟨⟨_, a⟩, _, d⟩
mutual
theorem Rep.mono (p : M <+: M') (k : KeptN N h h') (g : Grown N N' h) : ∀ {v : Value} {d : D}, Rep X M N h v d → Rep X M' N' h' v d
  | _, .none, r => r
  | _, .bool _, r => r
  | _, .int _, r => r
  | _, .str _, r => r
  | _, .tup _, .mk e n ⟨m, t⟩ z rs => .mk e (off_of g n t) ⟨m, k _ _ n t⟩ z (Reps.mono p k g rs)
  | _, .lst _, .mk e n ⟨o, t, q⟩ z rs => .mk e (off_of g n t) ⟨o, k _ _ n t, q⟩ z (Reps.mono p k g rs)
  | _, .dct _ _, .mk e n y m z rs => let ⟨_, t⟩ := m.there; .mk e (off_of g n t) y (m.at fun _ e => k _ _ n e) z (Reps.mono p k g rs)
  | _, .obj _ _ _, .mk e n1 n2 m z rs => let ⟨⟨_, t1⟩, _, t2⟩ := m.there; .mk e (off_of g n1 t1) (off_of g n2 t2) (m.at (fun _ e => k _ _ n1 e) (fun _ e => k _ _ n2 e)) z (Reps.mono p k g rs)
  | _, .ref _, r => r
  | _, .bi _, r => r
  | _, .rng _, .mk e n i z => .mk e (off_of g n i) (k _ _ n i) z
  | _, .cell _, .mk e w => by
    obtain ⟨t, rfl⟩ := p
    exact .mk (by rw [List.getElem?_append_left (List.getElem?_eq_some_iff.mp e).1]; exact e) w
  | _, .any, r => r
theorem Reps.mono (p : M <+: M') (k : KeptN N h h') (g : Grown N N' h) : ∀ {vs : List Value} {ds : List D}, Reps X M N h vs ds → Reps X M' N' h' vs ds
  | _, [], r => r
  | _, _ :: _, .mk e a b => .mk e (Rep.mono p k g a) (Reps.mono p k g b)
end
theorem Reps.cons {v : Value} {d : D} {vs : List Value} {ds : List D} (a : Rep X M N h v d) (b : Reps X M N h vs ds) : Reps X M N h (v :: vs) (d :: ds) := .mk rfl a b
theorem Reps.length : ∀ {vs : List Value} {ds : List D}, Reps X M N h vs ds → vs.length = ds.length
  | _, [], r => (r : _ = []) ▸ rfl
  | _, _ :: _, .mk e _ b => e ▸ congrArg Nat.succ b.length
theorem Reps.get : ∀ {vs : List Value} {ds : List D}, Reps X M N h vs ds → ∀ {i : Nat} {d : D}, ds[i]? = some d → ∃ v, vs[i]? = some v ∧ Rep X M N h v d
  | _, _ :: _, .mk w a _, 0, _, e => w ▸ ⟨_, rfl, Option.some.inj e ▸ a⟩
  | _, _ :: _, .mk w _ b, i + 1, _, e => w ▸ b.get (i := i) e
theorem Reps.append : ∀ {ds : List D} {vs us : List Value} {es : List D}, Reps X M N h vs ds → Reps X M N h us es → Reps X M N h (vs ++ us) (ds ++ es)
  | [], _, _, _, r, q => (r : _ = []) ▸ q
  | _ :: _, _, _, _, .mk e a b, q => e ▸ .mk rfl a (b.append q)
theorem Reps.one {v : Value} {d : D} (a : Rep X M N h v d) : Reps X M N h [v] [d] := .mk rfl a rfl
theorem Reps.take : ∀ {vs : List Value} {ds : List D} (n : Nat), Reps X M N h vs ds → Reps X M N h (vs.take n) (ds.take n)
  | _, _, 0, _ => rfl
  | _, [], _ + 1, r => (r : _ = []) ▸ rfl
  | _, _ :: _, n + 1, .mk e a b => e ▸ .mk rfl a (b.take n)
theorem Reps.drop : ∀ {vs : List Value} {ds : List D} (n : Nat), Reps X M N h vs ds → Reps X M N h (vs.drop n) (ds.drop n)
  | _, _, 0, r => r
  | _, [], _ + 1, r => (r : _ = []) ▸ rfl
  | _, _ :: _, n + 1, .mk e _ b => e ▸ b.drop n
theorem Reps.set : ∀ {vs : List Value} {ds : List D} {v : Value} {d : D} (n : Nat), Reps X M N h vs ds → Rep X M N h v d → Reps X M N h (vs.set n v) (ds.set n d)
  | _, [], _, _, _, r, _ => (r : _ = []) ▸ rfl
  | _, _ :: _, _, _, 0, .mk e _ b, q => e ▸ .mk rfl q b
  | _, _ :: _, _, _, n + 1, .mk e a b, q => e ▸ .mk rfl a (b.set n q)
inductive TabO (X : Wd) (h : Heap) (a : Addr) (xs : List (RK × Addr × Value)) : Prop
  | mk {o es ep} : h.get? a = some o → o.ExactDict → o.data = .dict es ep → es.toList = xs.map (entryOfKey (Z.rowKind X.prog X.w)) → (xs.map (·.1)).Nodup → TabO X h a xs
inductive CLst (h : Heap) (a : Addr) (n : Nat) (rs : List Value → Prop) : Prop
  | mk {vs} : h.PlainList a vs.toArray → n ≤ sizeLine → rs vs → CLst h a n rs
inductive DctAt (X : Wd) (h : Heap) (a : Addr) (ks : List D) (vs : List Value) : Prop
  | emp : EmpO h a → ks = [] → DctAt X h a ks vs
  | key : Keyed X h a ks vs → DctAt X h a ks vs
inductive CDct (X : Wd) (h : Heap) (a : Addr) (ks ds : List D) (rs : List Value → Prop) : Prop
  | mk {vs} : DctAt X h a ks vs → ks.length = ds.length → ds.length ≤ 1000 → rs vs → CDct X h a ks ds rs
inductive CTab (X : Wd) (h : Heap) (a : Addr) (ks : List RK) (ds : List D) (r1 r2 : List Value → Prop) : Prop
  | mk {xs : List (RK × Addr × Value)} : xs.map (·.1) = ks → ds.length ≤ 1000 → TabO X h a xs → r1 (xs.map fun x => .ref x.2.1) → r2 (xs.map (·.2.2)) → CTab X h a ks ds r1 r2
inductive CObj (h : Heap) (p : Addr × Addr) (C : Addr) (ns : List Str) (ds : List D) (rs : List Value → Prop) : Prop
  | mk {vs} : p.1 ≠ p.2 → Own h p.1 p.2 C ns vs → ns.length = ds.length → rs vs → CObj h p C ns ds rs
noncomputable def CellAt (X : Wd) (M : Lg) (N : Addr → Prop) (h : Heap) (p : Addr × Addr) : Cell → Prop
  | .lst ds => CLst h p.1 ds.length fun vs => Reps X M N h vs ds
  | .dct ks ds => CDct X h p.1 ks ds fun vs => Reps X M N h vs ds
  | .tab ks ds => CTab X h p.1 ks ds (fun vs => Reps X M N h vs (ks.map keyD)) fun vs => Reps X M N h vs ds
  | .obj C ns ds => CObj h p C ns ds fun vs => Reps X M N h vs ds
theorem CellAt.mono {p : Addr × Addr} {c : Cell} (pr : M <+: M') (k : KeptN N h h') (g : Grown N N' h) (k1 : ∀ o, h.get? p.1 = some o → h'.get? p.1 = some o) (k2 : ∀ o, h.get? p.2 = some o → h'.get? p.2 = some o) (x : CellAt X M N h p c) : CellAt X M' N' h' p c := by
  cases c with
  | lst ds => obtain ⟨⟨n, e⟩, z, rs⟩ := x; exact .mk ⟨n, k1 _ e⟩ z (rs.mono pr k g)
  | dct ks ds =>
    obtain ⟨m, l, z, rs⟩ := x
    refine .mk ?_ l z (rs.mono pr k g)
    cases m with
    | emp e q => obtain ⟨o, ep, e, r⟩ := e; exact .emp ⟨o, ep, k1 _ e, r⟩ q
    | key m => exact .key (m.at k1)
  | tab ks ds => obtain ⟨e, z, t, r1, r2⟩ := x; obtain ⟨t, b, c, d, f⟩ := t; exact .mk e z (.mk (k1 _ t) b c d f) (r1.mono pr k g) (r2.mono pr k g)
  | obj C ns ds => obtain ⟨n, m, l, rs⟩ := x; exact .mk n (m.at k1 k2) l (rs.mono pr k g)
theorem CellAt.there {p : Addr × Addr} {c : Cell} (x : CellAt X M N h p c) : ∃ o, h.get? p.1 = some o := by
  cases c with
  | lst ds => obtain ⟨⟨n, e⟩, _⟩ := x; exact ⟨_, e⟩
  | dct ks ds =>
    obtain ⟨m, _⟩ := x
    cases m with
    | emp e q => obtain ⟨o, ep, e, r⟩ := e; exact ⟨o, e⟩
    | key m => exact m.there
  | tab ks ds => obtain ⟨_, _, ⟨e, _⟩, _⟩ := x; exact ⟨_, e⟩
  | obj C ns ds => obtain ⟨_, m, _⟩ := x; exact m.there.1
end Mine
end
noncomputable section
namespace Mine
open PySem PySem.W PyProof.Rows PySem.Calls
theorem sq_iff {a b : Str} : sq a b = true ↔ a = b := by
  have lbi : ∀ x y : List Nat, lb x y = true ↔ x = y := by
    intro x
    induction x with
    | nil => intro y; cases y <;> simp [lb]
    | cons a x ih =>
      intro y
      cases y with
      | nil => simp [lb]
      | cons b y =>
        unfold lb
        cases q : Nat.beq a b with
        | true => have := Nat.eq_of_beq_eq_true q; subst this; simp [ih]
        | false => have := Nat.ne_of_beq_eq_false q; simp [this]
  unfold sq
  rw [lbi]
  constructor
  · intro e; cases a; cases b; simp only [Str.mk.injEq]; exact Array.toList_inj.mp e
  · rintro rfl; rfl
theorem nos {α : Type} {o : Option α} {x : α} {P : Prop} (a : o = none) (b : o = some x) : P := by rw [a] at b; cases b
theorem nn {α : Type} {a : α} {P : Prop} (h : none = some a) : P := nos rfl h
theorem nf {P : Prop} (h : false = true) : P := by cases h
theorem nt {P : Prop} (h : true = false) : P := by cases h
theorem sq_ne {a b : Str} (h : sq a b = false) : a ≠ b := fun e => by rw [sq_iff.mpr e] at h; cases h
structure Fm where
  env : Env
  hid : Addr → Prop
structure Ms where
  M : Lg
  K : List Addr
noncomputable def NF (F : Fm) (m : Ms) (a : Addr) : Prop := F.hid a ∨ a = F.env.locals ∨ fl m.M a ∨ a ∈ m.K
noncomputable def RepV (X : Wd) (F : Fm) (m : Ms) (h : Heap) (u : Value) : V → Prop
  | .dat d => Rep X m.M (NF F m) h u d
  | .loc i => ∃ a, m.K[i]? = some a ∧ u = .ref a
abbrev Same (s s' : Shared) : Prop := ∃ h tk, s' = { s with heap := h, toks := tk }
structure Step (F : Fm) (m m' : Ms) (s s' : Shared) : Prop where
  same : Same s s'
  pre : m.M <+: m'.M
  preK : m.K <+: m'.K
  new : ∀ a, fl m'.M a ∨ a ∈ m'.K → (fl m.M a ∨ a ∈ m.K) ∨ s.heap.get? a = none
  there : ∀ a, fl m'.M a ∨ a ∈ m'.K → ∃ o, s'.heap.get? a = some o
  kept : ∀ b o, s.heap.get? b = some o → b ≠ F.env.locals → ¬ (fl m.M b ∨ b ∈ m.K) → s'.heap.get? b = some o
  alive : ∀ b o, s.heap.get? b = some o → ∃ o', s'.heap.get? b = some o'
noncomputable def Apart (M : Lg) : Prop := ∀ (i j : Nat) (p q : Addr × Addr), M[i]? = some p → M[j]? = some q → i ≠ j → p.1 ≠ q.1 ∧ p.1 ≠ q.2 ∧ p.2 ≠ q.1 ∧ p.2 ≠ q.2
noncomputable def Locs (X : Wd) (F : Fm) (ρ : Rho) (m : Ms) (h : Heap) : Prop := ∃ mm, h.Ns F.env.locals mm ∧ ∀ x v, rget ρ x = some v → F.env.kindOf x = some .local → ∃ u, mm x = some u ∧ RepV X F m h u v
noncomputable def Cels (X : Wd) (F : Fm) (ρ : Rho) (m : Ms) (h : Heap) : Prop := ∀ x v, rget ρ x = some v → F.env.kindOf x = some .cell ∨ F.env.kindOf x = some .free → ∃ c u, F.env.cells.lookup x = some c ∧ h.IsCell c (some u) ∧ ¬ NF F m c ∧ RepV X F m h u v
structure Inv (X : Wd) (F : Fm) (ρ : Rho) (σ : St) (m : Ms) (h : Heap) : Prop where
  base : ∀ b o, X.hb.get? b = some o → h.get? b = some o
  off : ∀ a, NF F m a → X.hb.get? a = none
  hin : ∀ a, NF F m a → ∃ o, h.get? a = some o
  lhid : ¬ F.hid F.env.locals
  mhid : ∀ a, fl m.M a ∨ a ∈ m.K → ¬ F.hid a ∧ a ≠ F.env.locals
  dis : ∀ a ∈ m.K, ¬ fl m.M a
  apart : Apart m.M
  knd : m.K.Nodup
  loc : Locs X F ρ m h
  cel : Cels X F ρ m h
  len : m.M.length = σ.pi.length
  at_ : ∀ (i : Nat) (p : Addr × Addr) (c : Cell), m.M[i]? = some p → σ.pi[i]? = some c → CellAt X m.M (NF F m) h p c
  llen : m.K.length = σ.lc.length
  lst : ∀ (i : Nat) (a : Addr) (ds : List D), m.K[i]? = some a → σ.lc[i]? = some ds → CellAt X m.M (NF F m) h (a, a) (.lst ds)
structure FOk (F : Fm) (sc : Scope) : Prop where
  nd : ∀ x k, kindIn sc.names x = some k → (x == ("__debug__" : Str)) = false ∧ (x == ("__classdict__" : Str)) = false
  kind : F.env.scope.kind = .function
  glob : F.env.globals = mainGlobals
  bui : F.env.builtins = builtinsNs
  loc : ∀ x, kindIn sc.names x = some .local → F.env.kindOf x = some .local
  cel : ∀ x, kindIn sc.names x = some .cell → F.env.kindOf x = some .cell ∨ F.env.kindOf x = some .free
  fre : ∀ x, kindIn sc.names x = some .free → F.env.kindOf x = some .cell ∨ F.env.kindOf x = some .free
  glo : ∀ x, kindIn sc.names x = some .globalImplicit → F.env.kindOf x = some .globalImplicit
structure AOk (k : Nat) (A : Around) : Prop where
  handled : A.handled = none
  depth : A.depth + k < recursionLimit
  units : A.units + 4 * k + 40 < cLine
theorem AOk.le {k j : Nat} {A : Around} (a : AOk k A) (l : j ≤ k) : AOk j A := ⟨a.handled, Nat.lt_of_le_of_lt (Nat.add_le_add_left l _) a.depth, Nat.lt_of_le_of_lt (Nat.add_le_add_right (Nat.add_le_add_left (Nat.mul_le_mul_left 4 l) _) 40) a.units⟩
section
variable {X : Wd} {F : Fm} {m m' m'' : Ms} {s s' s'' : Shared} {h h' : Heap} {ρ ρ' : Rho} {σ σ' : St}
theorem Same.trans (a : Same s s') (b : Same s' s'') : Same s s'' := by
  obtain ⟨_, _, rfl⟩ := a
  obtain ⟨h, tk, rfl⟩ := b
  exact ⟨h, tk, rfl⟩
theorem Step.trans (a : Step F m m' s s') (b : Step F m' m'' s' s'') : Step F m m'' s s'' := by
  refine ⟨a.same.trans b.same, a.pre.trans b.pre, a.preK.trans b.preK, fun x hx => (b.new x hx).elim (a.new x) fun q => .inr ?_, b.there, fun c o e n1 n2 => b.kept c o (a.kept c o e n1 n2) n1 fun w => (a.new c w).elim n2 fun q => nos q e, fun c o e => let ⟨o', e'⟩ := a.alive c o e; b.alive c o' e'⟩
  cases e : s.heap.get? x with
  | none => rfl
  | some o => obtain ⟨o', e'⟩ := a.alive x o e; rw [e'] at q; cases q
theorem Step.grown (a : Step F m m' s s') : Grown (NF F m) (NF F m') s.heap := fun x q => q.elim (fun q => .inl (.inl q)) fun q => q.elim (fun q => .inl (.inr (.inl q))) fun q => (a.new x q).imp (fun q => .inr (.inr q)) id
theorem Step.keptN (a : Step F m m' s s') : KeptN (NF F m) s.heap s'.heap := fun b o n e => a.kept b o e (fun q => n (.inr (.inl q))) fun q => n (.inr (.inr q))
theorem Rep.step {u : Value} {d : D} (r : Rep X m.M (NF F m) s.heap u d) (a : Step F m m' s s') : Rep X m'.M (NF F m') s'.heap u d := r.mono a.pre a.keptN a.grown
theorem Reps.step {u : List Value} {d : List D} (r : Reps X m.M (NF F m) s.heap u d) (a : Step F m m' s s') : Reps X m'.M (NF F m') s'.heap u d := r.mono a.pre a.keptN a.grown
theorem RepV.step {u : Value} {v : V} (r : RepV X F m s.heap u v) (a : Step F m m' s s') : RepV X F m' s'.heap u v := by
  cases v with
  | dat d => exact Rep.step r a
  | loc i =>
    obtain ⟨x, e, q⟩ := r
    obtain ⟨t, ht⟩ := a.preK
    exact ⟨x, by rw [← ht, List.getElem?_append_left (List.getElem?_eq_some_iff.mp e).1]; exact e, q⟩
theorem CellAt.step {p : Addr × Addr} {c : Cell} (r : CellAt X m.M (NF F m) s.heap p c) (a : Step F m m' s s') (k1 : ∀ o, s.heap.get? p.1 = some o → s'.heap.get? p.1 = some o) (k2 : ∀ o, s.heap.get? p.2 = some o → s'.heap.get? p.2 = some o) : CellAt X m'.M (NF F m') s'.heap p c := r.mono a.pre a.keptN a.grown k1 k2
theorem Locs.step (l : Locs X F ρ m s.heap) (a : Step F m m' s s') (k : ∀ o, s.heap.get? F.env.locals = some o → s'.heap.get? F.env.locals = some o) : Locs X F ρ m' s'.heap := by
  obtain ⟨mm, ⟨o, es, ep, ho, q⟩, hm⟩ := l
  exact ⟨mm, ⟨o, es, ep, k _ ho, q⟩, fun x v e1 e2 => let ⟨u, a1, b⟩ := hm x v e1 e2; ⟨u, a1, b.step a⟩⟩
theorem Cels.step (l : Cels X F ρ m s.heap) (a : Step F m m' s s') : Cels X F ρ m' s'.heap := fun x v e1 e2 => by
  obtain ⟨c, u, a1, ⟨o, ho, hd⟩, a3, a4⟩ := l x v e1 e2
  exact ⟨c, u, a1, ⟨o, a.keptN _ _ a3 ho, hd⟩, off_of a.grown a3 ho, a4.step a⟩
theorem Inv.next (I : Inv X F ρ σ m s.heap) (a : Step F m m' s s') (dis : ∀ a ∈ m'.K, ¬ fl m'.M a) (ap : Apart m'.M) (knd : m'.K.Nodup) (lo : Locs X F ρ' m' s'.heap) (ce : Cels X F ρ' m' s'.heap) (len : m'.M.length = σ'.pi.length)
    (at_ : ∀ (i : Nat) (p : Addr × Addr) (c : Cell), m'.M[i]? = some p → σ'.pi[i]? = some c → CellAt X m'.M (NF F m') s'.heap p c) (llen : m'.K.length = σ'.lc.length) (lst : ∀ (i : Nat) (a : Addr) (ds : List D), m'.K[i]? = some a → σ'.lc[i]? = some ds → CellAt X m'.M (NF F m') s'.heap (a, a) (.lst ds)) : Inv X F ρ' σ' m' s'.heap := by
  have hb : ∀ x, s.heap.get? x = none → X.hb.get? x = none := fun x e => by
    cases w : X.hb.get? x with
    | none => rfl
    | some o => have := I.base _ _ w; rw [e] at this; cases this
  refine ⟨fun b o e => a.keptN b o (fun q => by rw [I.off b q] at e; cases e) (I.base b o e), fun x q => (a.grown x q).elim (I.off x) (hb x), fun x q => ?_, I.lhid, fun x q => ?_, dis, ap, knd, lo, ce, len, at_, llen, lst⟩
  · rcases q with q | q | q
    · obtain ⟨o, e⟩ := I.hin x (.inl q); exact a.alive x o e
    · obtain ⟨o, e⟩ := I.hin x (.inr (.inl q)); exact a.alive x o e
    · exact a.there x q
  · rcases a.new x q with q | q
    · exact I.mhid x q
    · exact ⟨fun w => let ⟨_, e⟩ := I.hin x (.inl w); nos q e, fun w => let ⟨_, e⟩ := I.hin x (.inr (.inl w)); nos q e⟩
theorem fl_get {M : Lg} {i : Nat} {p : Addr × Addr} (e : M[i]? = some p) : fl M p.1 ∧ fl M p.2 := ⟨⟨p, List.mem_of_getElem? e, .inl rfl⟩, ⟨p, List.mem_of_getElem? e, .inr rfl⟩⟩
theorem nd_get {α : Type} : ∀ {l : List α}, l.Nodup → ∀ {i j : Nat} {a : α}, l[i]? = some a → l[j]? = some a → i = j := fun nd i j a h1 h2 => by
  exact (List.getElem?_inj (List.getElem?_eq_some_iff.mp h1).1 nd).mp (h1.trans h2.symm)
theorem Inv.there (I : Inv X F ρ σ m s.heap) (a : Addr) (q : fl m.M a ∨ a ∈ m.K) : ∃ o, s.heap.get? a = some o := I.hin a (.inr (.inr q))
theorem Inv.same (I : Inv X F ρ σ m s.heap) : Step F m m s s := ⟨⟨s.heap, s.toks, rfl⟩, List.prefix_refl _, List.prefix_refl _, fun _ q => .inl q, I.there, fun _ _ e _ _ => e, fun _ o e => ⟨o, e⟩⟩
theorem Inv.toks (I : Inv X F ρ σ m s.heap) (tk : Nat) : Step F m m s { s with toks := tk } := ⟨⟨s.heap, tk, rfl⟩, List.prefix_refl _, List.prefix_refl _, fun _ q => .inl q, I.there, fun _ _ e _ _ => e, fun _ o e => ⟨o, e⟩⟩
theorem Inv.grew (I : Inv X F ρ σ m s.heap) (sm : Same s s') (k : ∀ b o, s.heap.get? b = some o → s'.heap.get? b = some o) : Step F m m s s' :=
  ⟨sm, List.prefix_refl _, List.prefix_refl _, fun _ q => .inl q, fun a q => let ⟨o, e⟩ := I.there a q; ⟨o, k a o e⟩, fun b o e _ _ => k b o e, fun b o e => ⟨o, k b o e⟩⟩
theorem Inv.ext (I : Inv X F ρ σ m s.heap) (sm : Same s s') (k : ∀ b o, s.heap.get? b = some o → s'.heap.get? b = some o) : Step F m m s s' ∧ Inv X F ρ σ m s'.heap := by
  have st := I.grew sm k
  exact ⟨st, I.next st I.dis I.apart I.knd (I.loc.step st (k _)) (I.cel.step st) I.len (fun i p c e1 e2 => (I.at_ i p c e1 e2).step st (k _) (k _)) I.llen fun i a ds e1 e2 => (I.lst i a ds e1 e2).step st (k _) (k _)⟩
theorem Inv.fresh (I : Inv X F ρ σ m s.heap) : ¬ NF F m s.heap.objs.size := fun n => by
  obtain ⟨o, e⟩ := I.hin _ n
  exact Nat.lt_irrefl _ (Heap.lt_size e)
theorem push_ext (h : Heap) (o : Obj) : ∀ b x, h.get? b = some x → (h.push o).get? b = some x := fun _ _ e => Heap.get?_push_of_some o e
theorem fl_app {M : Lg} {p : Addr × Addr} {a : Addr} (q : fl (M ++ [p]) a) : fl M a ∨ a = p.1 ∨ a = p.2 := by
  obtain ⟨p', mm, e⟩ := q
  rcases List.mem_append.mp mm with mm | mm
  · exact .inl ⟨p', mm, e⟩
  · rw [List.mem_singleton] at mm; subst mm; exact .inr e
theorem app_get {α : Type} {l : List α} {a b : α} {i : Nat} (e : (l ++ [a])[i]? = some b) : l[i]? = some b ∨ (i = l.length ∧ b = a) := by
  by_cases w : i < l.length
  · rw [List.getElem?_append_left w] at e; exact .inl e
  · rw [List.getElem?_append_right (Nat.le_of_not_lt w)] at e
    obtain ⟨h1, h2⟩ := List.getElem?_eq_some_iff.mp e
    have h1 : i - l.length < 1 := h1
    have : i - l.length = 0 := Nat.lt_one_iff.mp h1
    exact .inr ⟨Nat.le_antisymm (Nat.sub_eq_zero_iff_le.mp this) (Nat.le_of_not_lt w), by rw [← h2]; simp [this]⟩
theorem Inv.add (I : Inv X F ρ σ m s.heap) {p : Addr × Addr} {c : Cell} (sm : Same s s') (k : ∀ b o, s.heap.get? b = some o → s'.heap.get? b = some o) (e1 : s.heap.get? p.1 = none) (e2 : s.heap.get? p.2 = none) (a1 : ∃ o, s'.heap.get? p.1 = some o) (a2 : ∃ o, s'.heap.get? p.2 = some o)
    (z : Step F m ⟨m.M ++ [p], m.K⟩ s s' → CellAt X (m.M ++ [p]) (NF F ⟨m.M ++ [p], m.K⟩) s'.heap p c) : Step F m ⟨m.M ++ [p], m.K⟩ s s' ∧ Inv X F ρ { σ with pi := σ.pi ++ [c] } ⟨m.M ++ [p], m.K⟩ s'.heap := by
  have nn : ∀ x, s.heap.get? x = none → ¬ (fl m.M x ∨ x ∈ m.K) := fun x e q => by obtain ⟨o, ho⟩ := I.there x q; rw [e] at ho; cases ho
  have old : ∀ x, fl (m.M ++ [p]) x ∨ x ∈ m.K → (fl m.M x ∨ x ∈ m.K) ∨ x = p.1 ∨ x = p.2 := fun x q => q.elim (fun q => (fl_app q).imp .inl id) fun q => .inl (.inr q)
  have st : Step F m ⟨m.M ++ [p], m.K⟩ s s' := ⟨sm, List.prefix_append _ _, List.prefix_refl _, fun x q => (old x q).imp id fun q => q.elim (fun q => q ▸ e1) fun q => q ▸ e2, fun x q => (old x q).elim (fun q => let ⟨o, e⟩ := I.there x q; ⟨o, k x o e⟩) fun q => q.elim (fun q => q ▸ a1) fun q => q ▸ a2,
    fun b o e _ _ => k b o e, fun b o e => ⟨o, k b o e⟩⟩
  have ne : ∀ (i : Nat) (q : Addr × Addr), m.M[i]? = some q → q.1 ≠ p.1 ∧ q.1 ≠ p.2 ∧ q.2 ≠ p.1 ∧ q.2 ≠ p.2 := fun i q e => by
    obtain ⟨f1, f2⟩ := fl_get e
    exact ⟨fun w => nn _ e1 (.inl (w ▸ f1)), fun w => nn _ e2 (.inl (w ▸ f1)), fun w => nn _ e1 (.inl (w ▸ f2)), fun w => nn _ e2 (.inl (w ▸ f2))⟩
  refine ⟨st, I.next st (fun a q w => (fl_app w).elim (I.dis a q) fun w => w.elim (fun w => nn _ e1 (.inr (w ▸ q))) fun w => nn _ e2 (.inr (w ▸ q))) (fun i j q r e f n => ?_) I.knd (I.loc.step st (k _)) (I.cel.step st) (by simp [I.len]) (fun i q d e f => ?_) I.llen fun i a ds e1 e2 => (I.lst i a ds e1 e2).step st (k _) (k _)⟩
  · rcases app_get e with e' | ⟨w1, rfl⟩
    · rcases app_get f with f' | ⟨w2, rfl⟩
      · exact I.apart i j q r e' f' n
      · exact ne i q e'
    · rcases app_get f with f' | ⟨w2, rfl⟩
      · obtain ⟨b1, b2, b3, b4⟩ := ne j r f'
        exact ⟨b1.symm, b3.symm, b2.symm, b4.symm⟩
      · exact absurd (w1.trans w2.symm) n
  · rcases app_get e with e' | ⟨w1, rfl⟩
    · rcases app_get f with f' | ⟨w2, rfl⟩
      · exact (I.at_ i q d e' f').step st (k _) (k _)
      · have := (List.getElem?_eq_some_iff.mp e').1
        rw [I.len, w2] at this
        exact absurd this (Nat.lt_irrefl _)
    · rcases app_get f with f' | ⟨w2, rfl⟩
      · have := (List.getElem?_eq_some_iff.mp f').1
        rw [← I.len, w1] at this
        exact absurd this (Nat.lt_irrefl _)
      · exact z st
theorem Inv.addL (I : Inv X F ρ σ m s.heap) {a : Addr} {ds : List D} (sm : Same s s') (k : ∀ b o, s.heap.get? b = some o → s'.heap.get? b = some o) (e1 : s.heap.get? a = none) (a1 : ∃ o, s'.heap.get? a = some o)
    (z : Step F m ⟨m.M, m.K ++ [a]⟩ s s' → CellAt X m.M (NF F ⟨m.M, m.K ++ [a]⟩) s'.heap (a, a) (.lst ds)) : Step F m ⟨m.M, m.K ++ [a]⟩ s s' ∧ Inv X F ρ { σ with lc := σ.lc ++ [ds] } ⟨m.M, m.K ++ [a]⟩ s'.heap := by
  have nn : ∀ x, s.heap.get? x = none → ¬ (fl m.M x ∨ x ∈ m.K) := fun x e q => by obtain ⟨o, ho⟩ := I.there x q; rw [e] at ho; cases ho
  have old : ∀ x, fl m.M x ∨ x ∈ m.K ++ [a] → (fl m.M x ∨ x ∈ m.K) ∨ x = a := fun x q => q.elim (fun q => .inl (.inl q)) fun q => (List.mem_append.mp q).imp .inr List.mem_singleton.mp
  have st : Step F m ⟨m.M, m.K ++ [a]⟩ s s' := ⟨sm, List.prefix_refl _, List.prefix_append _ _, fun x q => (old x q).elim .inl (fun q => .inr (q.symm ▸ e1)), fun x q => (old x q).elim (fun q => let ⟨o, e⟩ := I.there x q; ⟨o, k x o e⟩) (fun q => q.symm ▸ a1), fun b o e _ _ => k b o e, fun b o e => ⟨o, k b o e⟩⟩
  refine ⟨st, I.next st (fun x q w => (List.mem_append.mp q).elim (fun q => I.dis x q w) fun q => nn a e1 (.inl (List.mem_singleton.mp q ▸ w))) I.apart ?_ (I.loc.step st (k _)) (I.cel.step st) I.len (fun i p c e1 e2 => (I.at_ i p c e1 e2).step st (k _) (k _)) (by simp [I.llen]) fun i x d e f => ?_⟩
  · rw [List.nodup_append]
    exact ⟨I.knd, by simp, fun x hx y hy w => nn a e1 (.inr (by rw [List.mem_singleton] at hy; exact (w.trans hy) ▸ hx))⟩
  · rcases app_get e with e' | ⟨w1, rfl⟩
    · rcases app_get f with f' | ⟨w2, rfl⟩
      · exact (I.lst i x d e' f').step st (k _) (k _)
      · have := (List.getElem?_eq_some_iff.mp e').1
        rw [I.llen, w2] at this
        exact absurd this (Nat.lt_irrefl _)
    · rcases app_get f with f' | ⟨w2, rfl⟩
      · have := (List.getElem?_eq_some_iff.mp f').1
        rw [← I.llen, w1] at this
        exact absurd this (Nat.lt_irrefl _)
      · exact z st
theorem Inv.set (I : Inv X F ρ σ m s.heap) {p : Addr × Addr} {i : Nat} {c : Cell} (e : m.M[i]? = some p) (sm : Same s s') (k : ∀ b o, b ≠ p.1 → b ≠ p.2 → s.heap.get? b = some o → s'.heap.get? b = some o) (a1 : ∃ o, s'.heap.get? p.1 = some o) (a2 : ∃ o, s'.heap.get? p.2 = some o)
    (z : Step F m m s s' → CellAt X m.M (NF F m) s'.heap p c) : Step F m m s s' ∧ Inv X F ρ { σ with pi := σ.pi.set i c } m s'.heap := by
  obtain ⟨f1, f2⟩ := fl_get e
  have al : ∀ b o, s.heap.get? b = some o → ∃ o', s'.heap.get? b = some o' := fun b o q => by
    by_cases w1 : b = p.1
    · exact w1 ▸ a1
    · by_cases w2 : b = p.2
      · exact w2 ▸ a2
      · exact ⟨o, k b o w1 w2 q⟩
  have off : ∀ a ∈ m.K, ∀ o, s.heap.get? a = some o → s'.heap.get? a = some o := fun a q o => k a o (fun w => I.dis a q (w.symm ▸ f1)) fun w => I.dis a q (w.symm ▸ f2)
  have st : Step F m m s s' := ⟨sm, List.prefix_refl _, List.prefix_refl _, fun _ q => .inl q, fun x q => let ⟨o, e⟩ := I.there x q; al x o e, fun b o q _ n => k b o (fun w => n (.inl (w ▸ f1))) (fun w => n (.inl (w ▸ f2))) q, al⟩
  refine ⟨st, I.next st I.dis I.apart I.knd (I.loc.step st fun o => k _ o (fun w => (I.mhid _ (.inl f1)).2 w.symm) fun w => (I.mhid _ (.inl f2)).2 w.symm) (I.cel.step st) (by simp [I.len]) (fun j q d e' f => ?_) I.llen fun j a ds e1 e2 => (I.lst j a ds e1 e2).step st (off _ (List.mem_of_getElem? e1)) (off _ (List.mem_of_getElem? e1))⟩
  by_cases w : j = i
  · subst w
    rw [e] at e'; cases e'
    rw [List.getElem?_set_self (I.len ▸ (List.getElem?_eq_some_iff.mp e).1)] at f
    cases f
    exact z st
  · rw [List.getElem?_set_ne (fun q => w q.symm)] at f
    obtain ⟨b1, b2, b3, b4⟩ := I.apart j i q p e' e w
    exact (I.at_ j q d e' f).step st (fun o => k _ o b1 b2) fun o => k _ o b3 b4
theorem Inv.setL (I : Inv X F ρ σ m s.heap) {a : Addr} {i : Nat} {ds : List D} (e : m.K[i]? = some a) (sm : Same s s') (k : ∀ b o, b ≠ a → s.heap.get? b = some o → s'.heap.get? b = some o) (a1 : ∃ o, s'.heap.get? a = some o)
    (z : Step F m m s s' → CellAt X m.M (NF F m) s'.heap (a, a) (.lst ds)) : Step F m m s s' ∧ Inv X F ρ { σ with lc := σ.lc.set i ds } m s'.heap := by
  have am := List.mem_of_getElem? e
  have al : ∀ b o, s.heap.get? b = some o → ∃ o', s'.heap.get? b = some o' := fun b o q => by
    by_cases w1 : b = a
    · exact w1 ▸ a1
    · exact ⟨o, k b o w1 q⟩
  have st : Step F m m s s' := ⟨sm, List.prefix_refl _, List.prefix_refl _, fun _ q => .inl q, fun x q => let ⟨o, e⟩ := I.there x q; al x o e, fun b o q _ n => k b o (fun w => n (.inr (w ▸ am))) q, al⟩
  refine ⟨st, I.next st I.dis I.apart I.knd (I.loc.step st fun o => k _ o fun w => (I.mhid _ (.inr am)).2 w.symm) (I.cel.step st) I.len (fun j q d e' f => (I.at_ j q d e' f).step st (fun o => k _ o fun w => I.dis a am (w ▸ (fl_get e').1)) fun o => k _ o fun w => I.dis a am (w ▸ (fl_get e').2)) (by simp [I.llen]) fun j b d e' f => ?_⟩
  by_cases w : j = i
  · subst w
    rw [e] at e'; cases e'
    rw [List.getElem?_set_self (I.llen ▸ (List.getElem?_eq_some_iff.mp e).1)] at f
    cases f
    exact z st
  · rw [List.getElem?_set_ne (fun q => w q.symm)] at f
    have ne : b ≠ a := fun q => w (nd_get I.knd (q ▸ e') e)
    exact (I.lst j b d e' f).step st (fun o => k _ o ne) fun o => k _ o ne
theorem ns_inj {h : Heap} {a : Addr} {f g : Str → Option Value} (x : h.Ns a f) (y : h.Ns a g) : f = g := by
  obtain ⟨o, es, ep, ho, hd, hk, hmm⟩ := x
  obtain ⟨o', es', ep', ho', hd', hk', hmm'⟩ := y
  rw [ho] at ho'; cases ho'
  rw [hd] at hd'; cases hd'
  exact funext fun y => by rw [← hmm y, ← hmm' y]
theorem Inv.store (I : Inv X F ρ σ m s.heap) {x : Str} {u : Value} {v : V} (kx : F.env.kindOf x = some .local) (ru : RepV X F m s.heap u v) (hs : ∀ y, rget ρ' y = if y = x then some v else rget ρ y) (sm : Same s s')
    (hn : ∀ f, s.heap.Ns F.env.locals f → s'.heap.Ns F.env.locals (fun y => if y = x then some u else f y)) (sb : Heap.SameBut F.env.locals s.heap s'.heap) : Step F m m s s' ∧ Inv X F ρ' σ m s'.heap := by
  obtain ⟨f, hf, hl⟩ := I.loc
  have k : ∀ b o, b ≠ F.env.locals → s.heap.get? b = some o → s'.heap.get? b = some o := fun b o n e => by rw [sb.2 b n]; exact e
  have al : ∀ b o, s.heap.get? b = some o → ∃ o', s'.heap.get? b = some o' := fun b o q => by
    by_cases w1 : b = F.env.locals
    · obtain ⟨o, _, _, e, _⟩ := hn f hf; exact w1 ▸ ⟨o, e⟩
    · exact ⟨o, k b o w1 q⟩
  have st : Step F m m s s' := ⟨sm, List.prefix_refl _, List.prefix_refl _, fun _ q => .inl q, fun x q => let ⟨o, e⟩ := I.there x q; al x o e, fun b o q n _ => k b o n q, al⟩
  refine ⟨st, I.next st I.dis I.apart I.knd ⟨_, hn f hf, fun y w e1 e2 => ?_⟩ (fun y w e1 e2 => ?_) I.len (fun i p c e1 e2 => (I.at_ i p c e1 e2).step st (fun o => k _ o (I.mhid _ (.inl (fl_get e1).1)).2) fun o => k _ o (I.mhid _ (.inl (fl_get e1).2)).2) I.llen fun i a ds e1 e2 => (I.lst i a ds e1 e2).step st (fun o => k _ o (I.mhid _ (.inr (List.mem_of_getElem? e1))).2) fun o => k _ o (I.mhid _ (.inr (List.mem_of_getElem? e1))).2⟩
  · rw [hs y] at e1
    by_cases q : y = x
    · rw [if_pos q] at e1; cases e1
      exact ⟨u, if_pos q, ru.step st⟩
    · rw [if_neg q] at e1
      obtain ⟨u', b, c⟩ := hl y w e1 e2
      exact ⟨u', (if_neg q).trans b, c.step st⟩
  · rw [hs y] at e1
    by_cases q : y = x
    · rw [q, kx] at e2; rcases e2 with e2 | e2 <;> cases e2
    · rw [if_neg q] at e1
      exact (I.cel.step st) y w e1 e2
end
end Mine
end
noncomputable section
namespace Mine
open PySem PySem.W PyProof.Rows PySem.Calls PySem.SeqAt
section
variable {C : CRel} {R : Out} {G : Prop} {α β : Type}
theorem bindW {x : Option α} {f : α → Option β} {r : β} (h : x.bind f = some r) (g : ∀ a, x = some a → f a = some r → G) : G := by
  cases x with
  | none => cases h
  | some a => exact g a rfl h
theorem onOW {b : Bool} {x : Option α} {r : α} (h : onO b x = some r) (g : b = true → x = some r → G) : G := by
  cases b with
  | true => exact g rfl h
  | false => cases h
theorem liftW {x : Option α} {k : α → Tr} (h : Run C (lift x k) R) (g : ∀ a, x = some a → Run C (k a) R → G) : G := by
  cases x with
  | none => exact h.elim
  | some a => exact g a rfl h
theorem onBW {b : Bool} {k : Tr} (h : Run C (onB b k) R) (g : b = true → Run C k R → G) : G := by
  cases b with
  | false => exact h.elim
  | true => exact g rfl h
theorem primW {t : Bool} {x : Option D} {k : D → Tr} (h : Run C (primC t x k) R) (g : ∀ d, x = some d → Run C (k d) R → G) : G := by
  cases t with
  | false => exact liftW h g
  | true => obtain ⟨d, e, h⟩ := h; exact g d e h
theorem cmpW {t : Bool} {x : Option Bool} {k : Bool → Tr} (h : Run C (cmpC t x k) R) (g : ∀ d, x = some d → Run C (k d) R → G) : G := by
  cases t with
  | false => exact liftW h g
  | true =>
    obtain ⟨d, e, h⟩ := h
    cases x with
    | none => exact nn e
    | some c => cases e; exact g c rfl h
theorem lresW {t : Bool} {x : Option (D × List D)} {k : D × List D → Tr} (h : Run C (lresC t x k) R) (g : ∀ d, x = some d → Run C (k d) R → G) : G := by
  cases t with
  | false => exact liftW h g
  | true => obtain ⟨d, e, h⟩ := h; exact g d e h
theorem testW {t c : Bool} {k : Bool → Tr} (h : Run C (testC t c k) R) : Run C (k c) R := by cases t <;> exact h
theorem onDW {k : D → St → Tr} {v : V} {σ : St} (h : Run C (onD k v σ) R) (g : ∀ d, v = .dat d → Run C (k d σ) R → G) : G := by
  cases v with
  | dat d => exact g d rfl h
  | loc i => exact h.elim
theorem dInt_is {d : D} {i : Int} (h : dInt d = some i) : d = .int i := by cases d <;> first | exact nn h | exact Option.some.inj h ▸ rfl
theorem dStr_is {d : D} {i : Str} (h : dStr d = some i) : d = .str i := by cases d <;> first | exact nn h | exact Option.some.inj h ▸ rfl
theorem dTup_is {d : D} {i : List D} (h : dTup d = some i) : d = .tup i := by cases d <;> first | exact nn h | exact Option.some.inj h ▸ rfl
theorem dLst_is {d : D} {i : List D} (h : dLst d = some i) : d = .lst i := by cases d <;> first | exact nn h | exact Option.some.inj h ▸ rfl
theorem dBool_is {d : D} {i : Bool} (h : dBool d = some i) : d = .bool i := by cases d <;> first | exact nn h | exact Option.some.inj h ▸ rfl
theorem isN_is {d : D} (h : isN d = true) : d = .none := by cases d <;> first | rfl | exact nf h
theorem dNat_is {d : D} {n : Nat} (h : dNat d = some n) : d = .int (.ofNat n) := by
  cases d with
  | int i => cases i with
    | ofNat m => exact Option.some.inj h ▸ rfl
    | negSucc _ => exact nn h
  | _ => exact nn h
end
section
variable {X : Wd} {M : Lg} {N : Addr → Prop} {h : Heap}
theorem chk_le {n : Nat} (h : chk n = true) : n ≤ sizeLine := by rw [sizeLine_eq]; exact Nat.le_of_ble_eq_true h
theorem small_of {i : Int} (h : small i = true) : -(2 ^ 64) < i ∧ i < 2 ^ 64 := by
  have := Nat.blt_eq.mp h
  omega
theorem small_log {i : Int} (h : small i = true) : i.natAbs.log2 < 1920 := by
  have h2 := Nat.blt_eq.mp h
  rcases Nat.eq_zero_or_pos i.natAbs with h0 | hp
  · rw [h0]; decide
  · exact Nat.lt_of_lt_of_le ((Nat.log2_lt (k := 64) (Nat.ne_of_gt hp)).mpr (Nat.lt_trans h2 (by decide))) (by decide)
theorem list_inj {α : Type} {xs ys : List α} (e : xs.toArray = ys.toArray) : xs = ys := by cases e; rfl
theorem tup_inj {a : Addr} {xs ys : List Value} (p : PTup h a xs) (q : PTup h a ys) : xs = ys := by
  obtain ⟨n, p⟩ := p
  obtain ⟨n', q⟩ := q
  rw [p] at q; cases q; rfl
theorem lst_inj {a : Addr} {xs ys : List Value} (p : h.IsList a xs.toArray) (q : h.IsList a ys.toArray) : xs = ys := by
  obtain ⟨o, p, _, n, d⟩ := p
  obtain ⟨o', q, _, n', d'⟩ := q
  rw [p] at q; cases q
  rw [d] at d'; injection d' with d'
  exact list_inj d'
theorem eqs_same {n : Nat} (ih : ∀ v d e b, Rep X M N h v d → Rep X M N h v e → eqD n d e = some b → b = true) : ∀ {ds es : List D} {vs : List Value} {b : Bool}, Reps X M N h vs ds → Reps X M N h vs es → eqs (eqD n) ds es = some b → b = true
  | [], [], _, _, _, _, e => (Option.some.inj e).symm
  | [], _ :: _, _, _, r, .mk w _ _, _ => by cases r; cases w
  | _ :: _, [], _, _, .mk w _ _, q, _ => by cases q; cases w
  | _ :: _, _ :: _, _, _, .mk w r1 r2, .mk w' q1 q2, e => bindW e fun b1 e1 e => bindW e fun b2 e2 e => by
    subst w; cases w'
    rw [← Option.some.inj e, ih _ _ _ _ r1 q1 e1, eqs_same ih r2 q2 e2]
    rfl
theorem eq_same : ∀ (n : Nat) (v : Value) (d e : D) (b : Bool), Rep X M N h v d → Rep X M N h v e → eqD n d e = some b → b = true
  | 0, _, _, _, _, _, _, q => nn q
  | n + 1, v, d, e, b, r1, r2, q => by
    cases d with
    | none => exact onOW q fun _ q => (Option.some.inj q).symm
    | bool x =>
      refine bindW q fun y w q => ?_
      rw [dBool_is w] at r2
      cases r1; cases r2; exact Option.some.inj q ▸ beq_self_eq_true _
    | int x =>
      refine bindW q fun y w q => ?_
      rw [dInt_is w] at r2
      obtain ⟨t, rfl⟩ := r1; obtain ⟨t', e⟩ := r2; cases e; exact Option.some.inj q ▸ decide_eq_true rfl
    | str x =>
      refine bindW q fun y w q => ?_
      rw [dStr_is w] at r2
      obtain ⟨rfl⟩ := r1; obtain ⟨e⟩ := r2; cases e; exact Option.some.inj q ▸ sq_iff.mpr rfl
    | tup x =>
      refine bindW q fun y w q => ?_
      rw [dTup_is w] at r2
      obtain ⟨rfl, _, t1, _, p1⟩ := r1
      obtain ⟨e, _, t2, _, p2⟩ := r2
      cases e; cases tup_inj t1 t2
      exact eqs_same (eq_same n) p1 p2 q
    | lst x =>
      refine bindW q fun y w q => ?_
      rw [dLst_is w] at r2
      obtain ⟨rfl, _, t1, _, p1⟩ := r1
      obtain ⟨e, _, t2, _, p2⟩ := r2
      cases e; cases lst_inj t1 t2
      exact eqs_same (eq_same n) p1 p2 q
    | _ => exact nn q
theorem eqs_at {n : Nat} : ∀ {ds es : List D} {b : Bool}, eqs (eqD n) ds es = some b → ∃ e : Nat → Bool, (∀ j d d', ds[j]? = some d → es[j]? = some d' → eqD n d d' = some (e j)) ∧ b = ((List.range (min ds.length es.length)).all e && ds.length == es.length)
  | [], [], b, q => ⟨fun _ => true, fun j d d' q => by simp at q, by cases q; rfl⟩
  | [], y :: ys, b, q => ⟨fun _ => true, fun j d d' q => by simp at q, by cases q; simp⟩
  | x :: xs, [], b, q => ⟨fun _ => true, fun j d d' _ q => by simp at q, by cases q; simp⟩
  | x :: xs, y :: ys, b, q => by
    refine bindW q fun b1 e1 q => bindW q fun b2 e2 q => ?_
    cases q
    obtain ⟨e, he, hb⟩ := eqs_at e2
    refine ⟨fun j => match j with | 0 => b1 | j + 1 => e j, fun j d d' p1 p2 => ?_, ?_⟩
    · cases j with
      | zero => cases p1; cases p2; exact e1
      | succ j => exact he j d d' p1 p2
    · subst hb
      simp only [List.length_cons, Nat.succ_min_succ, List.range_succ_eq_map, List.all_cons, List.all_map]
      rw [Bool.and_assoc]
      congr 2
      rw [Bool.eq_iff_iff]; simp
abbrev Eq3 (A : Around) (s : Shared) (u v : Value) (b : Bool) : Prop := RcAt A s u v b ∧ RcNeAt A s u v (!b) ∧ EqAt A s u v b
theorem eq3_refs {A : Around} {s : Shared} {a a' : Addr} {b : Bool} (k1 : RcAt A s (.ref a) (.ref a') b) (k2 : RcNeAt A s (.ref a) (.ref a') (!b)) (e : a = a' → b = true) : Eq3 A s (.ref a) (.ref a') b := by
  refine ⟨k1, k2, ?_⟩
  by_cases q : a = a'
  · subst q
    rw [e rfl]
    exact EqAt.same _
  · exact EqAt.of_refs q k1
theorem eqAt {s : Shared} (hh : s.heap = h) : ∀ (n : Nat) (A : Around) (u v : Value) (d e : D) (b : Bool), A.units + n < cLine → Rep X M N h u d → Rep X M N h v e → eqD n d e = some b → Eq3 A s u v b
  | 0, _, _, _, _, _, _, _, _, _, q => by cases q
  | n + 1, A, u, v, d, e, b, hu, r1, r2, q => by
    have sm : u = v → b = true := fun w => eq_same (n + 1) v d e b (w ▸ r1) r2 q
    have el : ∀ {vs us : List Value} {x y : List D} {f : Nat → Bool}, Reps X M N h vs x → Reps X M N h us y → (∀ j d d', x[j]? = some d → y[j]? = some d' → eqD n d d' = some (f j)) → ∀ j (h1 : j < vs.toArray.size) (h2 : j < us.toArray.size), EqAt A.in1 s vs.toArray[j] us.toArray[j] (f j) := fun {vs us x y f} p1 p2 hf j h1 h2 => by
      have l1 : j < x.length := p1.length ▸ h1
      have l2 : j < y.length := p2.length ▸ h2
      obtain ⟨v1, g1, rd⟩ := p1.get (List.getElem?_eq_getElem l1)
      obtain ⟨v2, g2, re⟩ := p2.get (List.getElem?_eq_getElem l2)
      have := (eqAt hh n A.in1 _ _ _ _ (f j) (by show A.units + 1 + n < cLine; omega) rd re (hf j _ _ (List.getElem?_eq_getElem l1) (List.getElem?_eq_getElem l2))).2.2
      have i1 : vs.toArray[j] = v1 := (List.getElem?_eq_some_iff.mp g1).2
      have i2 : us.toArray[j] = v2 := (List.getElem?_eq_some_iff.mp g2).2
      rw [i1, i2]; exact this
    have hz : A.units < cLine := Nat.lt_of_le_of_lt (Nat.le_add_right _ _) hu
    cases d with
    | none => exact onOW q fun w q => by rw [isN_is w] at r2; cases q; cases r1; cases r2; exact ⟨RcAt.none_none, RcNeAt.none_none, EqAt.same _⟩
    | bool x =>
      refine bindW q fun y w q => ?_
      rw [dBool_is w] at r2
      cases r1; cases r2; cases q; exact ⟨RcAt.bool_bool _ _, RcNeAt.bool_bool _ _, EqAt.bool_bool _ _⟩
    | int x =>
      refine bindW q fun y w q => ?_
      rw [dInt_is w] at r2
      obtain ⟨t, rfl⟩ := r1; obtain ⟨t', rfl⟩ := r2; cases q
      have : decide (x = y) = (x == y) := by rw [Bool.eq_iff_iff]; simp
      rw [this]; exact ⟨RcAt.int_int _ _ _ _, RcNeAt.int_int _ _ _ _, EqAt.int_int _ _ _ _⟩
    | str x =>
      refine bindW q fun y w q => ?_
      rw [dStr_is w] at r2
      obtain ⟨rfl⟩ := r1; obtain ⟨rfl⟩ := r2; cases q
      have : sq x y = (x == y) := by rw [Bool.eq_iff_iff, sq_iff, beq_iff_eq]
      rw [this]; exact ⟨RcAt.str_str _ _ _ _, RcNeAt.str_str _ _ _ _, EqAt.str_str _ _ _ _⟩
    | tup x =>
      refine bindW q fun y w q => ?_
      rw [dTup_is w] at r2
      obtain @⟨a, vs, rfl, _, t1, _, p1⟩ := r1
      obtain @⟨a', us, rfl, _, t2, _, p2⟩ := r2
      obtain ⟨f, hf, hb⟩ := eqs_at q
      have k1 := RcAt.tuples (A := A) (s := s) (l := a) (b := a') (items := vs.toArray) (items2 := us.toArray) (e := f) (hh ▸ t1.tup) (hh ▸ t2.tup) hz (el p1 p2 hf)
      have k2 := RcNeAt.tuples (A := A) (s := s) (l := a) (b := a') (items := vs.toArray) (items2 := us.toArray) (e := f) (hh ▸ t1.tup) (hh ▸ t2.tup) hz (el p1 p2 hf)
      rw [List.size_toArray, List.size_toArray, p1.length, p2.length, ← hb] at k1 k2
      exact eq3_refs k1 k2 fun w => sm (congrArg _ w)
    | lst x =>
      refine bindW q fun y w q => ?_
      rw [dLst_is w] at r2
      obtain @⟨a, vs, rfl, _, t1, _, p1⟩ := r1
      obtain @⟨a', us, rfl, _, t2, _, p2⟩ := r2
      obtain ⟨f, hf, hb⟩ := eqs_at q
      have e1 : vs.toArray.size = x.length := p1.length
      have e2 : us.toArray.size = y.length := p2.length
      by_cases hz' : x.length = y.length
      · have k1 := RcAt.lists (A := A) (s := s) (l := a) (b := a') (items := vs.toArray) (items2 := us.toArray) (e := f) (hh ▸ t1) (hh ▸ t2) (e1.trans (hz'.trans e2.symm)) hz (el p1 p2 hf)
        have k2 := RcNeAt.lists (A := A) (s := s) (l := a) (b := a') (items := vs.toArray) (items2 := us.toArray) (e := f) (hh ▸ t1) (hh ▸ t2) (e1.trans (hz'.trans e2.symm)) hz (el p1 p2 hf)
        rw [← hz', Nat.min_self, beq_self_eq_true, Bool.and_true, ← e1] at hb
        rw [← hb] at k1 k2
        exact eq3_refs k1 k2 fun w => sm (congrArg _ w)
      · rw [beq_eq_false_iff_ne.mpr hz', Bool.and_false] at hb
        subst hb
        have ne : (vs.toArray.size != us.toArray.size) = true := bne_iff_ne.mpr fun w => hz' (e1.symm.trans (w.trans e2))
        exact eq3_refs (RcAt.lists_lengths (items := vs.toArray) (items2 := us.toArray) (hh ▸ t1) (hh ▸ t2) ne hz) (RcNeAt.lists_lengths (items := vs.toArray) (items2 := us.toArray) (hh ▸ t1) (hh ▸ t2) ne hz) fun w => sm (congrArg _ w)
    | _ => exact nn q
end
end Mine
end
noncomputable section
namespace Mine
open PySem PySem.W PyProof.Rows PySem.Calls PySem.SeqAt
section
variable {C : CRel} {R : Out} {X : Wd} {M : Lg} {N : Addr → Prop} {s : Shared} {A : Around} {E : Value → Shared → Prop} {Q : Value → Shared → Prop} {u v : Value} {a b d : D}
theorem gInt {G : Prop} {k : Int → Tr} (r : Rep X M N s.heap u a) (h : Run C (lift (dInt a) k) R) (g : ∀ i t, u = .int i t → Run C (k i) R → G) : G := liftW h fun i e h => by
  cases dInt_is e
  obtain ⟨t, rfl⟩ := r
  exact g i t rfl h
theorem len_cat (a b : Str) : (a ++ b).length = a.length + b.length := by
  show (a ++ b).cps.size = _
  exact Array.size_append ..
theorem rInt {h : Heap} (i : Int) (t : Tok) : Rep X M N h (.int i t) (.int i) := Exists.intro t rfl
theorem rStr {h : Heap} {x : Str} (t : Tok) (l : x.length ≤ sizeLine) : Rep X M N h (.str x t) (.str x) := RStr.mk rfl l
theorem posI_is {j : Int} (h : posI j = true) : 0 < j := by
  cases j with
  | ofNat n => cases n with
    | zero => exact nf h
    | succ n => exact Int.ofNat_lt.mpr (Nat.succ_pos n)
  | negSucc => exact nf h
theorem binC_at {op : Operator} {k : D → Tr} (h : Run C (binC op a b k) R) (r1 : Rep X M N s.heap u a) (r2 : Rep X M N s.heap v b) (hQ : ∀ x tk d, Rep X M N s.heap x d → Run C (k d) R → Q x { s with toks := tk }) : wpAny (model X.prog X.w) A (binaryOp op u v) Q E s := by
  cases op with
  | Add =>
    cases a with
    | int i =>
      obtain ⟨t, rfl⟩ := r1
      refine gInt r2 h fun j t' e h => ?_
      subst e
      exact PyProof.Rows.add_int (hQ _ _ _ (rInt _ _) h)
    | str x =>
      obtain @⟨t, rfl, _⟩ := r1
      refine liftW h fun y e h => ?_
      cases dStr_is e
      obtain @⟨t', rfl, _⟩ := r2
      have hl := chk_le h.1
      exact PyProof.Rows.add_str (hsz := by rw [← len_cat]; exact hl) fun t' tk => hQ _ _ _ (rStr _ hl) h.2
    | _ => exact h.elim
  | Sub =>
    refine gInt r1 h fun i t e h => gInt r2 h fun j t' e' h => ?_
    subst e e'
    exact PyProof.Rows.sub_int (hQ _ _ _ (rInt _ _) h)
  | Mult =>
    refine gInt r1 h fun i t e h => gInt r2 h fun j t' e' h => onBW h fun c h => ?_
    subst e e'
    have := small_of c
    exact PyProof.Rows.mul_int (hQ _ _ _ (rInt _ _) h) (.of_left (intBits_le_64 this.1 this.2))
  | Mod =>
    refine gInt r1 h fun i t e h => gInt r2 h fun j t' e' h => onBW h fun c h => ?_
    subst e e'
    exact PyProof.Rows.mod_int (Int.ne_of_gt (posI_is c)) (hQ _ _ _ (rInt _ _) h)
  | FloorDiv =>
    refine gInt r1 h fun i t e h => gInt r2 h fun j t' e' h => onBW h fun c h => ?_
    subst e e'
    have c := Bool.and_eq_true_iff.mp c
    exact PyProof.Rows.floordiv_int (Int.ne_of_gt (of_decide_eq_true c.1)) (hQ _ _ _ (rInt _ _) h) (.inl (PyProof.noPylong_small (Nat.lt_trans (Nat.blt_eq.mp c.2) (by decide))))
  | _ => exact h.elim
theorem isAny_not {c : Bool} (h : isNone a = some c) : isAny a = false ∧ isN a = c := by
  unfold isNone at h
  cases q : isAny a with
  | true => rw [q] at h; cases h
  | false => rw [q] at h; cases h; exact ⟨rfl, rfl⟩
theorem is_rep {c : Bool} (r : Rep X M N s.heap u a) (h : isNone a = some c) : (u == Value.none) = c := by
  obtain ⟨h1, rfl⟩ := isAny_not h
  cases a with
  | none => rw [show u = _ from r]; rfl
  | any => exact nt h1
  | bool b => rw [show u = _ from r]; rfl
  | bi b => rw [show u = _ from r]; cases b <;> rfl
  | int i => obtain ⟨t, rfl⟩ := r; rfl
  | cell i => obtain ⟨_, rfl⟩ := r; rfl
  | _ => obtain ⟨rfl⟩ := r; rfl
theorem dget_gen {K : Type} [BEq K] [LawfulBEq K] {f : K → D} (hf : ∀ x k, keyIs (f x) (f k) = (x == k)) {x : K} : ∀ {ks : List K} {vs : List Value} {ds : List D}, ks.length = ds.length → Reps X M N s.heap vs ds →
    (∀ d, dget (ks.map f) ds (f x) = some d → ∃ v, (ks.zip vs).lookup x = some v ∧ v ∈ vs ∧ Rep X M N s.heap v d) ∧ (dget (ks.map f) ds (f x) = none → (ks.zip vs).lookup x = none)
  | [], _, _, _, _ => ⟨fun d e => (by cases e), fun _ => rfl⟩
  | k :: ks, _, [], l, _ => by cases l
  | k :: ks, _, d :: ds, l, r => by
    obtain @⟨v, us, rfl, r1, r2⟩ := r
    have hc := hf x k
    simp only [List.map_cons, dget, List.zip_cons_cons, List.lookup_cons, hc]
    cases q : x == k with
    | true => exact ⟨fun d e => by cases e; exact ⟨v, rfl, List.mem_cons_self, r1⟩, fun e => by cases e⟩
    | false =>
      obtain ⟨i1, i2⟩ := dget_gen hf (x := x) (Nat.succ.inj l) r2
      exact ⟨fun d e => let ⟨v', a, b, c⟩ := i1 d e; ⟨v', a, List.mem_cons_of_mem _ b, c⟩, i2⟩
theorem key_int (x k : Int) : keyIs (.int x) (.int k) = (x == k) := by show decide (x = k) = _; rw [Bool.eq_iff_iff]; simp
theorem key_str (x k : Str) : keyIs (.str x) (.str k) = (x == k) := by show sq x k = _; rw [Bool.eq_iff_iff, sq_iff]; simp
theorem fget_eq : ∀ (ns : List Str) (ds : List D) (x : Str), fget ns ds x = dget (ns.map D.str) ds (.str x)
  | [], _, _ => rfl
  | _ :: _, [], _ => rfl
  | n :: ns, d :: ds, x => by
    show (match sq x n with | true => _ | false => _) = (match sq x n with | true => _ | false => _)
    cases sq x n with
    | true => rfl
    | false => exact fget_eq ns ds x
theorem valueAt_lookup {K : Type} [DecidableEq K] [BEq K] [LawfulBEq K] : ∀ (l : List (K × Value)) (k : K), valueAt l k = l.lookup k
  | [], _ => rfl
  | (a, v) :: l, k => by
    have ih := valueAt_lookup l k
    unfold valueAt at ih ⊢
    rw [List.find?_cons, List.lookup_cons]
    by_cases e : a = k
    · subst e; simp
    · simp only [e, decide_false, show (k == a) = false from beq_eq_false_iff_ne.mpr fun w => e w.symm]
      exact ih
theorem dictOf_map {K : Type} [DecidableEq K] [BEq K] [LawfulBEq K] {prog : Program} {w : World} {knd : KeyKind prog w K} {h : Heap} {a : Addr} {kvs : List (K × Value)} (m : h.DictOf knd a kvs) : h.MapOf knd a (fun k => kvs.lookup k) :=
  (funext fun k => valueAt_lookup kvs k : valueAt kvs = fun k => kvs.lookup k) ▸ m.mapOf
theorem key_mis {x : D} (hi : ∀ i, x ≠ .int i) : ∀ {is : List Int} {ds : List D}, dget (is.map D.int) ds x = none
  | [], _ => rfl
  | _ :: _, [] => rfl
  | i :: is, d :: ds => by
    have : keyIs x (.int i) = false := by cases x <;> first | rfl | exact absurd rfl (hi _)
    simp only [List.map_cons, dget, this]
    exact key_mis hi
theorem key_mss {x : D} (hi : ∀ i, x ≠ .str i) : ∀ {is : List Str} {ds : List D}, dget (is.map D.str) ds x = none
  | [], _ => rfl
  | _ :: _, [] => rfl
  | i :: is, d :: ds => by
    have : keyIs x (.str i) = false := by cases x <;> first | rfl | exact absurd rfl (hi _)
    simp only [List.map_cons, dget, this]
    exact key_mss hi
theorem dct_item {value slice : Expr} {ad : Addr} {ks ds : List D} {vs : List Value} (m : Keyed X s.heap ad ks vs) (l : ks.length = ds.length) (rs : Reps X M N s.heap vs ds) (rk : Rep X M N s.heap u a) (q : dget ks ds a = some d)
    (hs : subscripted slice false (.ref ad) u = operate [.ref ad, u] (getItem (.ref ad) u)) (hQ : ∀ x tk, Rep X M N s.heap x d → Q x { s with toks := tk }) : wpAny (model X.prog X.w) A (subscriptTail value slice (.ref ad) u) Q E s := by
  rcases m with @⟨is, rfl, m⟩ | @⟨is, rfl, m⟩
  · by_cases w : ∃ i, a = .int i
    · obtain ⟨i, rfl⟩ := w
      obtain ⟨t, rfl⟩ := rk
      obtain ⟨v, hv, _, r⟩ := (dget_gen key_int (by simpa using l) rs).1 d q
      exact tail_any m.typeIs slot_dict_getitem.lookup (wpAny_getItem_of (intKind_is _ _ _ _) (dictOf_map m) hv (hQ v _ r)) hs
    · rw [key_mis fun i e => w ⟨i, e⟩] at q; cases q
  · by_cases w : ∃ i, a = .str i
    · obtain ⟨i, rfl⟩ := w
      obtain @⟨t, rfl, _⟩ := rk
      obtain ⟨v, hv, _, r⟩ := (dget_gen key_str (by simpa using l) rs).1 d q
      exact tail_any m.typeIs slot_dict_getitem.lookup (wpAny_getItem_of (strKind_is _ _ _ _) (dictOf_map m) hv (hQ v _ r)) hs
    · rw [key_mss fun i e => w ⟨i, e⟩] at q; cases q
theorem seq_item {value slice : Expr} {ad : Addr} {ds : List D} {vs : List Value} {i : Int} {t : Tok} (hl : s.heap.IsList ad vs.toArray ∨ PTup s.heap ad vs) (hz : ds.length ≤ sizeLine) (rs : Reps X M N s.heap vs ds) (q : at_ ds i = some d)
    (hs : subscripted slice false (.ref ad) (.int i t) = operate [.ref ad, .int i t] (getItem (.ref ad) (.int i t))) (hQ : ∀ x, Rep X M N s.heap x d → Q x s) : wpAny (model X.prog X.w) A (subscriptTail value slice (.ref ad) (.int i t)) Q E s := by
  cases i with
  | negSucc n => cases q
  | ofNat n =>
    have q : ds[n]? = some d := q
    obtain ⟨v, hv, r⟩ := rs.get q
    have hn := (List.getElem?_eq_some_iff.mp q).1
    have hl' := rs.length
    rw [sizeLine_eq] at hz
    have p63 : (Int.ofNat n) < 2 ^ 63 := Int.ofNat_lt.mpr (Nat.lt_of_lt_of_le (Nat.lt_of_lt_of_le hn hz) (by decide : 16777216 ≤ 2 ^ 63))
    have m63 : -(2 ^ 63) ≤ (Int.ofNat n) := Int.le_trans (by decide) (Int.natCast_nonneg n)
    have lt : (Int.ofNat n) < (vs.toArray.size : Int) := Int.ofNat_lt.mpr (by show n < vs.length; rw [hl']; exact hn)
    rcases hl with hl | hl
    · exact tail_any hl.typeIs slot_list_getitem.lookup (wpAny_getItem_list hl (Int.natCast_nonneg n) p63 (x := v) (by simpa using hv) (hQ v r)) hs
    · exact tail_any hl.tup.typeIs slot_tuple_getitem.lookup (PyProof.Rows.getItem_tuple hl.tup m63 p63 (seqIndex_of (Int.natCast_nonneg n) lt) (by simpa using hv) (hQ v r)) hs
end
end Mine
end
noncomputable section
namespace Mine
open PySem PySem.W PyProof.Rows PySem.Calls PySem.SeqAt
section
variable {C : CRel} {R : Out} {X : Wd} {M : Lg} {N : Addr → Prop} {s : Shared} {A : Around} {E : Value → Shared → Prop} {Q : Value → Shared → Prop} {u v : Value} {a b d : D}
theorem cmpI_at {op : CmpOp} {x y : Int} {t t' : Tok} {c : Bool} (q : cmpI op x y = some c) (hQ : Q (.bool c) s) : wpAny (model X.prog X.w) A (compareOp op (.int x t) (.int y t')) Q E s := by
  have e : ∀ x y : Int, (!decide (x ≤ y)) = decide (y < x) := fun x y => by rw [← decide_not]; exact decide_eq_decide.mpr Int.not_le
  cases op with
  | Lt => cases q; exact PyProof.Rows.lt_int (e y x ▸ hQ)
  | LtE => cases q; exact PyProof.Rows.le_int hQ
  | Gt => cases q; exact PyProof.Rows.gt_int (e x y ▸ hQ)
  | GtE => cases q; exact PyProof.Rows.ge_int hQ
  | _ => exact nn q
theorem cmp_at {op : CmpOp} {c : Bool} (hu : A.units + 8 < cLine) (r1 : Rep X M N s.heap u a) (r2 : Rep X M N s.heap v b) (q : cmp op a b = some c) (hQ : ∀ tk, Q (.bool c) { s with toks := tk }) : wpAny (model X.prog X.w) A (compareOp op u v) Q E s := by
  have I : ∀ {c}, ((dInt a).bind fun x => (dInt b).bind fun y => cmpI op x y) = some c → (∀ tk, Q (.bool c) { s with toks := tk }) → wpAny (model X.prog X.w) A (compareOp op u v) Q E s := fun q hQ => by
    refine bindW q fun x w q => bindW q fun y w' q => ?_
    cases dInt_is w; cases dInt_is w'
    obtain ⟨t, rfl⟩ := r1
    obtain ⟨t', rfl⟩ := r2
    exact cmpI_at q (hQ s.toks)
  have S : ∀ f : Option Bool, (match isN b with | true => f | false => none) = some c → v = .none ∧ f = some c := fun f p => by
    cases w : isN b with
    | true => rw [w] at p; exact ⟨by cases isN_is w; exact r2, p⟩
    | false => rw [w] at p; exact nn p
  cases op with
  | Eq => exact (eqAt rfl 8 A u v _ _ c hu r1 r2 q).1 _ _ _ _ (hQ s.toks)
  | NotEq =>
    refine bindW q fun c w q => ?_
    cases q
    exact (eqAt rfl 8 A u v _ _ c hu r1 r2 w).2.1 _ _ _ _ (hQ s.toks)
  | Is =>
    obtain ⟨rfl, q⟩ := S (isNone a) q
    exact is_none_gen (by rw [is_rep r1 q]; exact hQ s.toks)
  | IsNot =>
    obtain ⟨rfl, q⟩ := S ((isNone a).bind fun b => some (!b)) q
    refine bindW q fun c w q => ?_
    cases q
    exact isnot_none_gen (by rw [is_rep r1 w]; exact hQ s.toks)
  | In =>
    cases b with
    | dct ks ds =>
      cases w : intKeyed ks with
      | false => simp only [cmp, w] at q; exact nn q
      | true =>
        simp only [cmp, w] at q
        refine bindW q fun i w' q => ?_
        cases dInt_is w'
        obtain ⟨t, rfl⟩ := r1
        obtain @⟨ad, vs, rfl, _, sy, m, l, rs⟩ := r2
        rcases m with @⟨is, rfl, m⟩ | @⟨is, rfl, m⟩
        · refine wpAny_in_of (knd := intKind X.prog X.w) (intKind_is _ _ i t) sy (dictOf_map m) ?_
          obtain ⟨g1, g2⟩ := dget_gen key_int (x := i) (by simpa using l) rs
          have : ((is.zip vs).lookup i).isSome = (dget (is.map D.int) ds (.int i)).isSome := by
            cases q : dget (is.map D.int) ds (.int i) with
            | none => rw [g2 q]; rfl
            | some d => obtain ⟨v, hv, _⟩ := g1 d q; rw [hv]; rfl
          rw [this, Option.some.inj q]
          exact hQ _
        · cases is <;> cases w
    | _ => exact nn q
  | NotIn => exact I q hQ
  | Lt => exact I q hQ
  | LtE => exact I q hQ
  | Gt => exact I q hQ
  | GtE => exact I q hQ
theorem len_emp {α β : Type} {vs : List α} {ds : List β} (e : vs.length = ds.length) : (!vs.toArray.isEmpty) = !ds.isEmpty := by
  cases vs <;> cases ds <;> first | rfl | cases e
theorem fit63 {n : Nat} (l : n ≤ sizeLine) : (n : Int) < 2 ^ 63 := Int.ofNat_lt.mpr (Nat.lt_of_le_of_lt l (by rw [sizeLine_eq]; decide))
theorem truth_at {c : Bool} {Q : Bool → Shared → Prop} (r : Rep X M N s.heap u a) (q : truth a = some c) (hQ : ∀ tk, Q c { s with toks := tk }) : wpAny (model X.prog X.w) A (truthy u) Q E s := by
  cases a with
  | none => cases q; cases r; exact truthy_none (hQ s.toks)
  | bool b => cases q; cases r; exact wpAny_truthy_bool (hQ s.toks)
  | int i =>
    cases q
    obtain ⟨t, rfl⟩ := r
    refine PyProof.Rows.truthy_int ?_
    have : (i != 0) = !decide (i = 0) := by rw [Bool.eq_iff_iff]; simp
    rw [this]; exact hQ s.toks
  | tup l =>
    cases q
    obtain @⟨a, vs, rfl, _, t, z, p⟩ := r
    refine truthy_tuple t.tup (fit63 (Nat.le_trans (Nat.le_of_eq p.length) z)) ?_
    rw [len_emp p.length]; exact hQ _
  | lst l =>
    cases q
    obtain @⟨a, vs, rfl, _, t, z, p⟩ := r
    refine wpAny_truthy_list t (fit63 (Nat.le_trans (Nat.le_of_eq p.length) z)) ?_
    rw [len_emp p.length]; exact hQ _
  | _ => exact nn q
theorem ints_eq : ∀ {is js : List Int}, isT (eqs (eqD 1) (is.map D.int) (js.map D.int)) = true → is = js
  | [], [], _ => rfl
  | [], _ :: _, h => nf h
  | _ :: _, [], h => nf h
  | i :: is, j :: js, h => by
    cases w : eqs (eqD 1) (is.map D.int) (js.map D.int) with
    | none => simp only [List.map_cons, eqs, w] at h; exact nf h
    | some b =>
      simp only [List.map_cons, eqs, w] at h
      obtain ⟨h1, h2⟩ := Bool.and_eq_true_iff.mp h
      rw [ints_eq (is := is) (js := js) (by rw [w]; exact h2), of_decide_eq_true h1]
theorem look_mem : ∀ {l : List (Int × Value)}, (l.map (·.1)).Nodup → ∀ p ∈ l, l.lookup p.1 = some p.2
  | (k, v) :: r, nd, p, m => by
    obtain ⟨n1, n2⟩ := List.nodup_cons.mp nd
    rw [List.lookup_cons]
    rcases List.mem_cons.mp m with rfl | m
    · rw [beq_self_eq_true]
    · rw [beq_eq_false_iff_ne.mpr fun (e : p.1 = k) => n1 (e ▸ List.mem_map_of_mem (f := (·.1)) m)]
      exact look_mem n2 p m
theorem keq_hits (hu : A.units + 6 < cLine) {kb : List (Int × Value)} : ∀ {ks : List Int} {ds es : List D} {vs us : List Value}, Reps X M N s.heap vs ds → Reps X M N s.heap us es → (∀ p ∈ ks.zip us, valueAt kb p.1 = some p.2) → eqs (eqD 6) ds es = some true → KeqHits A s kb (ks.zip vs) true
  | [], _, _, _, _, _, _, _, _ => by rw [List.zip_nil_left]; exact .nil
  | _ :: _, [], _, _, _, r, _, _, _ => by cases r; rw [List.zip_nil_right]; exact .nil
  | _ :: _, _ :: _, [], _, _, _, _, _, e => nomatch e
  | k :: ks, d :: ds, d' :: es, _, _, .mk (v := v) w r1 r2, .mk (v := u) w' q1 q2, h, e => bindW e fun b1 e1 e => bindW e fun b2 e2 e => by
    subst w; subst w'
    obtain ⟨rfl, rfl⟩ := Bool.and_eq_true_iff.mp (Option.some.inj e)
    rw [List.zip_cons_cons] at h ⊢
    exact KeqHits.hit (e := true) (b := true) (h (k, u) List.mem_cons_self) (eqAt rfl 6 A v u d d' true hu r1 q1 e1).2.2 (keq_hits hu r2 q2 (fun p m => h p (List.mem_cons_of_mem _ m)) e2)
theorem ne_at {c : Bool} (hu : A.units + 8 < cLine) (r1 : Rep X M N s.heap u a) (r2 : Rep X M N s.heap v b) (q : neD a b = some c) (hQ : ∀ tk, Q (.bool c) { s with toks := tk }) : wpAny (model X.prog X.w) A (compareOp .NotEq u v) Q E s := by
  cases a with
  | dct ks ds =>
    cases b with
    | dct ks' es =>
      refine onOW q fun g q => bindW q fun b e q => onOW q fun gb q => ?_
      cases q; cases gb
      obtain ⟨g1, g2⟩ := Bool.and_eq_true_iff.mp g
      obtain ⟨g2, g3⟩ := Bool.and_eq_true_iff.mp g2
      obtain @⟨a, vs, rfl, _, s1, m1, l1, p1⟩ := r1
      obtain @⟨b, us, rfl, _, s2, m2, l2, p2⟩ := r2
      rcases m1 with @⟨is, rfl, m1⟩ | @⟨is, rfl, m1⟩
      · rcases m2 with @⟨js, rfl, m2⟩ | @⟨js, rfl, m2⟩
        · cases ints_eq g3
          have lz : (is.zip vs).length = (is.zip us).length := by rw [List.length_zip, List.length_zip, p1.length, p2.length, ← l1, ← l2]
          have m3 := m2
          obtain ⟨_, _, _, _, _, _, _, _, nd⟩ := m3
          refine keq_ne (knd := intKind X.prog X.w) (r := true) s1 s2 m1 m2 (Nat.lt_of_le_of_lt (Nat.le_add_right _ _) hu) (fun _ => keq_hits (Nat.lt_of_le_of_lt (by show A.units + 1 + 6 ≤ A.units + 8; exact Nat.add_le_add_left (by decide : 1 + 6 ≤ 8) A.units) hu) p1 p2 (fun p m => ?_) e) ?_
          · rw [valueAt_lookup]; exact look_mem nd p m
          · rw [lz, beq_self_eq_true]; exact hQ s.toks
        · cases js <;> exact nf g2
      · cases is <;> exact nf g1
    | _ => exact nn q
  | _ => exact cmp_at (op := .NotEq) hu r1 r2 q hQ
variable {F : Fm} {m : Ms} {ρ : Rho} {σ : St}
theorem sub_plain {slice : Expr} {o i : Value} (h : sliceOf slice = none) : subscripted slice false o i = operate [o, i] (getItem o i) := by
  cases slice <;> first | rfl | cases h
theorem item_at (I : Inv X F ρ σ m s.heap) {value slice : Expr} {v : V} {x : Value} (ru : RepV X F m s.heap u v) (rk : Rep X m.M (NF F m) s.heap x a) (q : item v a σ = some d)
    (hs : subscripted slice false u x = operate [u, x] (getItem u x)) (hQ : ∀ x tk, Rep X m.M (NF F m) s.heap x d → Q x { s with toks := tk }) : wpAny (model X.prog X.w) A (subscriptTail value slice u x) Q E s := by
  have row : ∀ {ad : Addr} {vs : List Value} {ds : List D}, s.heap.IsList ad vs.toArray ∨ PTup s.heap ad vs → ds.length ≤ sizeLine → Reps X m.M (NF F m) s.heap vs ds → ((dInt a).bind fun k => at_ ds k) = some d → u = .ref ad → wpAny (model X.prog X.w) A (subscriptTail value slice u x) Q E s := fun hl z rs q e => by
    subst e
    refine bindW q fun i w q => ?_
    cases dInt_is w
    obtain ⟨t, rfl⟩ := rk
    exact seq_item hl z rs q hs fun x r => hQ x s.toks r
  cases v with
  | loc i =>
    obtain ⟨ad, e, rfl⟩ := ru
    refine bindW q fun l w q => ?_
    obtain @⟨vs, p, z, rs⟩ := I.lst _ _ _ e w
    exact row (.inl p.isList) z rs q rfl
  | dat v =>
    cases v with
    | tup l => obtain @⟨ad, vs, rfl, _, t, z, p⟩ := ru; exact row (.inr t) z p q rfl
    | lst l => obtain @⟨ad, vs, rfl, _, t, z, p⟩ := ru; exact row (.inl t) z p q rfl
    | dct ks ds => obtain @⟨ad, vs, rfl, _, _, k, l, p⟩ := ru; exact dct_item k l p rk q hs hQ
    | cell c =>
      obtain @⟨p, e, rfl⟩ := ru
      refine bindW q fun y w q => ?_
      have ca := I.at_ _ _ _ e w
      cases y with
      | lst l => obtain @⟨vs, p, z, rs⟩ := ca; exact row (.inl p.isList) z rs q rfl
      | dct ks ds =>
        obtain @⟨vs, k, l, z, rs⟩ := ca
        rcases k with ⟨_, rfl⟩ | k
        · cases ds <;> exact nn q
        · exact dct_item k l rs rk q hs hQ
      | _ => exact nn q
    | _ => exact nn q
inductive RD (X : Wd) (F : Fm) (m : Ms) (h : Heap) (u : Value) (ks ds : List D) : Prop
  | mk {a vs} : u = .ref a → (a == sysModules) = false → Keyed X h a ks vs → ks.length = ds.length → Reps X m.M (NF F m) h vs ds → RD X F m h u ks ds
theorem thaw_dct (sy : ∃ o, X.hb.get? sysModules = some o) (I : Inv X F ρ σ m s.heap) (r : Rep X m.M (NF F m) s.heap u d) {ks ds : List D} (h : thaw σ d = .dct ks ds) : RD X F m s.heap u ks ds := by
  cases d with
  | dct => cases h; obtain ⟨e, _, s, k, l, p⟩ := r; exact ⟨e, s, k, l, p⟩
  | cell c =>
    have h : (match σ.pi[c]? with
      | some x => (match x with
        | .lst l => .lst l
        | .dct ks ds => (match intKeyed ks with
          | true => .dct ks ds
          | false => .cell c)
        | _ => .cell c)
      | none => .cell c) = D.dct ks ds := h
    cases w : σ.pi[c]? with
    | none => rw [w] at h; cases h
    | some x =>
      rw [w] at h
      obtain ⟨e, rfl⟩ := r
      cases x with
      | dct ks' ds' =>
        have h : (match intKeyed ks' with | true => D.dct ks' ds' | false => .cell c) = .dct ks ds := h
        cases q : intKeyed ks' with
        | false => rw [q] at h; cases h
        | true =>
          rw [q] at h; cases h
          obtain ⟨t, l, z, p⟩ := I.at_ _ _ _ e w
          refine ⟨rfl, beq_eq_false_iff_ne.mpr fun w => ?_, ?_, l, p⟩
          · obtain ⟨o, h⟩ := sy
            rw [← w, I.off _ (.inr (.inr (.inl (fl_get e).1)))] at h
            cases h
          · cases t with
            | emp _ k => subst k; exact nf q
            | key t => exact t
      | _ => cases h
  | _ => cases h
theorem thaw_rep (sy : ∃ o, X.hb.get? sysModules = some o) (I : Inv X F ρ σ m s.heap) (r : Rep X m.M (NF F m) s.heap u d) : Rep X m.M (fun _ => False) s.heap u (thaw σ d) := by
  have off : ∀ {v : Value} {d : D}, Rep X m.M (NF F m) s.heap v d → Rep X m.M (fun _ => False) s.heap v d := fun r => r.mono (List.prefix_refl _) (fun _ _ _ e => e) fun _ => False.elim
  have offs : ∀ {v : List Value} {d : List D}, Reps X m.M (NF F m) s.heap v d → Reps X m.M (fun _ => False) s.heap v d := fun r => r.mono (List.prefix_refl _) (fun _ _ _ e => e) fun _ => False.elim
  cases d with
  | cell c =>
    show Rep X m.M (fun _ => False) s.heap u (match σ.pi[c]? with | some x => _ | none => _)
    cases w : σ.pi[c]? with
    | none => exact off r
    | some x =>
      obtain ⟨e, rfl⟩ := r
      cases x with
      | lst l =>
        obtain ⟨t, z, p⟩ := I.at_ _ _ _ e w
        exact RSeq.mk rfl id t.isList z (offs p)
      | dct ks ds =>
        show Rep X m.M (fun _ => False) s.heap _ (match intKeyed ks with | true => D.dct ks ds | false => .cell c)
        cases q : intKeyed ks with
        | false => exact RCell.mk e rfl
        | true =>
          obtain ⟨e, s, k, l, p⟩ := thaw_dct (d := .cell c) sy I (RCell.mk e rfl) (show thaw σ (.cell c) = .dct ks ds by
            show (match σ.pi[c]? with | some x => _ | none => _) = _
            rw [w]
            show (match intKeyed ks with | true => D.dct ks ds | false => .cell c) = _
            rw [q])
          exact RDct.mk e id s k l (offs p)
      | _ => exact RCell.mk e rfl
  | _ => exact off r
theorem cmpS_at {op : CmpOp} {c : Bool} (sy : ∃ o, X.hb.get? sysModules = some o) (hu : A.units + 8 < cLine) (I : Inv X F ρ σ m s.heap) (r1 : Rep X m.M (NF F m) s.heap u a) (r2 : Rep X m.M (NF F m) s.heap v b) (q : cmpS op a b σ = some c) (hQ : ∀ tk, Q (.bool c) { s with toks := tk }) : wpAny (model X.prog X.w) A (compareOp op u v) Q E s := by
  cases op with
  | NotEq => exact ne_at hu (thaw_rep sy I r1) (thaw_rep sy I r2) q hQ
  | _ => exact cmp_at hu r1 r2 q hQ
end
end Mine
end
noncomputable section
namespace Mine
open PySem PySem.W PyProof.Rows PySem.Calls PySem.SeqAt
theorem keyIs_eq {a b : D} (h : keyIs a b = true) : a = b := by
  cases a with
  | int x => cases b with
    | int y => exact congrArg D.int (of_decide_eq_true h)
    | _ => exact nf h
  | str x => cases b with
    | str y => exact congrArg D.str (sq_iff.mp h)
    | _ => exact nf h
  | _ => exact nf h
theorem dset_is {k u : D} : ∀ {ks ds ds' : List D}, dset ks ds k u = some ds' → ∃ j : Nat, ks[j]? = some k ∧ ds' = ds.set j u
  | [], _, _, h => nn h
  | _ :: _, [], _, h => nn h
  | k' :: ks, d :: ds, ds', h => by
    unfold dset at h
    cases q : keyIs k k' with
    | true => rw [q] at h; cases h; cases keyIs_eq q; exact ⟨0, rfl, rfl⟩
    | false =>
      rw [q] at h
      refine bindW h fun r e h => ?_
      cases h
      obtain ⟨j, a, rfl⟩ := dset_is e
      exact ⟨j + 1, a, rfl⟩
theorem dset_no {k u : D} (kk : keyIs k k = true) : ∀ {ks ds : List D}, ks.length = ds.length → dset ks ds k u = none → k ∉ ks
  | [], _, _, _ => List.not_mem_nil
  | _ :: _, [], l, _ => by cases l
  | k' :: ks, d :: ds, l, h => by
    unfold dset at h
    cases q : keyIs k k' with
    | true => rw [q] at h; cases h
    | false =>
      rw [q] at h
      cases e : dset ks ds k u with
      | some r => rw [e] at h; cases h
      | none => exact fun m => (List.mem_cons.mp m).elim (fun w => (by rw [← w, kk] at q; cases q)) (dset_no kk (Nat.succ.inj l) e)
section
variable {K : Type} [DecidableEq K] {i : K} {v : Value}
theorem zip_fst_mem {α β : Type} {ks : List α} {vs : List β} {p : α × β} (h : p ∈ ks.zip vs) : p.1 ∈ ks := (List.of_mem_zip h).1
theorem map_set : ∀ {ks : List K} {vs : List Value} {j : Nat}, ks.Nodup → ks.length = vs.length → ks[j]? = some i → (ks.zip vs).map (fun kv => if kv.1 = i then (kv.1, v) else kv) = ks.zip (vs.set j v)
  | k :: ks, [], _, _, h, _ => by cases h
  | k :: ks, u :: vs, 0, nd, hl, h => by
    cases h
    rw [List.zip_cons_cons, List.map_cons, if_pos rfl, List.set_cons_zero, List.zip_cons_cons]
    exact congrArg _ ((List.map_congr_left fun p hp => if_neg fun (e : p.1 = i) => (List.nodup_cons.mp nd).1 (e ▸ zip_fst_mem hp)).trans (List.map_id _))
  | k :: ks, u :: vs, j + 1, nd, hl, h => by
    have h : ks[j]? = some i := h
    rw [List.zip_cons_cons, List.map_cons, if_neg fun (e : k = i) => (List.nodup_cons.mp nd).1 (e ▸ List.mem_of_getElem? h), List.set_cons_succ, List.zip_cons_cons, map_set (List.nodup_cons.mp nd).2 (Nat.succ.inj hl) h]
theorem stored_set {ks : List K} {vs : List Value} {j : Nat} (nd : ((ks.zip vs).map (·.1)).Nodup) (hl : ks.length = vs.length) (h : ks[j]? = some i) : stored (ks.zip vs) i v = ks.zip (vs.set j v) := by
  have e : (ks.zip vs).map (·.1) = ks := List.map_fst_zip (Nat.le_of_eq hl)
  rw [e] at nd
  have m : i ∈ (ks.zip vs).map (·.1) := by rw [e]; exact List.mem_of_getElem? h
  obtain ⟨p, m, q⟩ := List.mem_map.mp m
  unfold stored
  rw [if_pos (List.any_eq_true.mpr ⟨p, m, decide_eq_true q⟩)]
  exact map_set nd hl h
theorem stored_new {ks : List K} {vs : List Value} (hl : ks.length = vs.length) (h : i ∉ ks) : stored (ks.zip vs) i v = (ks ++ [i]).zip (vs ++ [v]) := by
  unfold stored
  rw [if_neg (fun q => ?_), List.zip_append hl]
  · rfl
  · obtain ⟨p, hp, e⟩ := List.any_eq_true.mp q
    exact h (of_decide_eq_true e ▸ zip_fst_mem hp)
end
section
variable {X : Wd} {M : Lg} {N : Addr → Prop} {h : Heap} {a : Addr} {ks : List D} {vs : List Value}
theorem emp_dict {K : Type} [DecidableEq K] {knd : KeyKind X.prog X.w K} (e : EmpO h a) : h.DictOf knd a [] := by
  obtain ⟨o, ep, ho, hx, hd⟩ := e
  exact ⟨o, #[], ep, ho, hx, hd, fun e m => (by simp at m), .nil, List.nodup_nil⟩
theorem dict_emp {K : Type} [DecidableEq K] {knd : KeyKind X.prog X.w K} (e : h.DictOf knd a []) : EmpO h a := by
  obtain ⟨o, es, ep, ho, hx, hd, _, p, _⟩ := e
  refine ⟨o, ep, ho, hx, ?_⟩
  rw [hd, Array.toList_eq_nil_iff.mp (List.length_eq_zero_iff.mp p.length)]
theorem map_nil' {K : Type} {f : K → D} {is : List K} (e : [] = is.map f) : is = [] := (List.map_eq_nil_iff.mp e.symm)
theorem dct_emp (k : DctAt X h a [] vs) : EmpO h a := by
  rcases k with ⟨e, _⟩ | @⟨@⟨is, e, m⟩ | @⟨is, e, m⟩⟩
  · exact e
  · obtain rfl := map_nil' e; exact dict_emp m
  · obtain rfl := map_nil' e; exact dict_emp m
theorem dct_int (k : DctAt X h a ks vs) (q : allD isIntD ks = true) : ∃ is : List Int, ks = is.map D.int ∧ h.DictOf (intKind X.prog X.w) a (is.zip vs) := by
  rcases k with ⟨e, rfl⟩ | @⟨@⟨is, e, m⟩ | @⟨is, rfl, m⟩⟩
  · exact ⟨[], rfl, emp_dict e⟩
  · exact ⟨is, e, m⟩
  · rcases is with _ | ⟨i, is⟩
    · exact ⟨[], rfl, emp_dict (dict_emp m)⟩
    · exact nf q
theorem dct_str (k : DctAt X h a ks vs) (q : allD isStrD ks = true) : ∃ is : List Str, ks = is.map D.str ∧ h.DictOf (strKind X.prog X.w) a (is.zip vs) := by
  rcases k with ⟨e, rfl⟩ | @⟨@⟨is, rfl, m⟩ | @⟨is, e, m⟩⟩
  · exact ⟨[], rfl, emp_dict e⟩
  · rcases is with _ | ⟨i, is⟩
    · exact ⟨[], rfl, emp_dict (dict_emp m)⟩
    · exact nf q
  · exact ⟨is, e, m⟩
theorem emp_tab (e : EmpO h a) : TabO X h a [] := by
  obtain ⟨o, ep, ho, hx, hd⟩ := e
  exact .mk ho hx hd rfl List.nodup_nil
theorem ints_are : ∀ {l : List Int} {vs : List Value}, Reps X M N h vs (l.map D.int) → ItemsAre (intKind X.prog X.w) l vs
  | [], _, e => (e : _ = []) ▸ .nil
  | _ :: _, _, .mk e ⟨t, e1⟩ r => by subst e1 e; exact .cons (intKind_is _ _ _ _) (ints_are r)
theorem ints_inv : ∀ {ds : List D} {l : List Int}, intsOf ds = some l → ds = l.map D.int
  | [], _, e => Option.some.inj e ▸ rfl
  | d :: ds, l, e => bindW e fun i w e => bindW e fun l' w' e => by rw [dInt_is w, ints_inv w', ← Option.some.inj e]; rfl
theorem ptup_it {l : List Value} (x : PTup h a l) : Z.TupIt h a l := let ⟨n, e⟩ := x; ⟨_, _, n, e, rfl, rfl, rfl⟩
theorem rk_inv {k : D} {r : RK} (e : rkOf k = some r) : k = keyD r := by
  cases k with
  | tup l => cases l with
    | nil => exact nn e
    | cons a l => cases l with
      | nil => exact nn e
      | cons b l =>
        refine bindW (x := dInt a) e fun i w1 e1 => bindW e1 fun j w2 e2 => ?_
        rw [dInt_is w1, dInt_is w2]
        cases l with
        | nil => exact Option.some.inj e2 ▸ rfl
        | cons c l => cases l with
          | cons => exact nn e2
          | nil => exact bindW e2 fun m w3 e3 => bindW e3 fun m' w4 e4 => by rw [dTup_is w3, ints_inv w4]; exact Option.some.inj e4 ▸ rfl
  | _ => exact nn e
theorem isI (i : Int) (t : Tok) : Value.isInt i (.int i t) = true := beq_self_eq_true i
theorem rep_row {u : Value} {r : RK} (x : Rep X M N h u (keyD r)) : ∃ a, u = .ref a ∧ Z.RowAt X.prog X.w h r a := by
  obtain ⟨i, j, q⟩ := r
  rcases q with _ | l
  · obtain @⟨ad, _, e, _, t, _, @⟨_, _, e1, ⟨t1, e3⟩, @⟨_, _, e2, ⟨t2, e4⟩, e5⟩⟩⟩ := x
    subst e3 e4 e5 e2 e1
    exact ⟨ad, e, _, _, isI i t1, isI j t2, ptup_it t⟩
  · obtain @⟨ad, _, e, _, t, _, @⟨_, _, e1, ⟨t1, e3⟩, @⟨_, _, e2, ⟨t2, e4⟩, @⟨_, _, e5, @⟨b, ws, e6, _, tb, _, pb⟩, e7⟩⟩⟩⟩ := x
    subst e3 e4 e6 e7 e5 e2 e1
    have ia := ints_are pb
    refine ⟨ad, e, _, _, isI i t1, isI j t2, b, fun w => ?_, ptup_it t, ?_⟩
    · subst w
      have := ia.byValue _ ((ptup_it t).inj (ptup_it tb) ▸ List.mem_cons_of_mem _ (List.mem_cons_of_mem _ List.mem_cons_self) : Value.ref ad ∈ ws)
      cases this
    · obtain ⟨n, e⟩ := tb
      exact ⟨_, _, n, e, rfl, rfl, ia⟩
theorem tab_dict {xs : List (RK × Addr × Value)} {ks : List RK} (hk : xs.map (·.1) = ks) (t : TabO X h a xs) (r : Reps X M N h (xs.map fun x => .ref x.2.1) (ks.map keyD)) : h.DictOfH (Z.rowKind X.prog X.w) a xs := by
  obtain ⟨ho, hx, hd, he, hn⟩ := t
  refine ⟨_, _, _, ho, hx, hd, he, fun x m => ?_, hn⟩
  obtain ⟨i, e⟩ := List.mem_iff_getElem?.mp m
  obtain ⟨v, hv, rv⟩ := r.get (by rw [← hk, List.map_map, List.getElem?_map, e]; rfl : (ks.map keyD)[i]? = some (keyD x.1))
  rw [List.getElem?_map, e] at hv
  cases hv
  obtain ⟨b, hb, ra⟩ := rep_row rv
  cases hb
  exact ra
theorem hasK_no {k : RK} : ∀ {ks : List RK}, hasK (req k) ks = false → k ∉ ks
  | [], _ => List.not_mem_nil
  | j :: ks, h => by
    unfold hasK at h
    cases q : req k j with
    | true => rw [q] at h; cases h
    | false => rw [q] at h; exact fun m => (List.mem_cons.mp m).elim (of_decide_eq_false q) (hasK_no h)
theorem atKey_no {xs : List (RK × Addr × Value)} {ks : List RK} {k : RK} (hk : xs.map (·.1) = ks) (h : hasK (req k) ks = false) : atKey xs k = none :=
  atKey_none_of_get fun _ p e => hasK_no h (hk ▸ List.mem_map.mpr ⟨(k, p), List.mem_of_getElem? e, rfl⟩)
end
end Mine
end
noncomputable section
namespace Mine
open PySem PySem.W PyProof.Rows PySem.Calls PySem.SeqAt
section
variable {X : Wd} {s s' : Shared} {A : Around} {E : Value → Shared → Prop} {u v : Value} {a b d : D} {F : Fm} {m : Ms} {ρ : Rho} {σ σ' : St} {h h' : Heap}
theorem Inv.put (I : Inv X F ρ σ m s.heap) {p : Addr × Addr} {i : Nat} {c : Cell} (e : m.M[i]? = some p) (sm : Same s s') (sb : Heap.SameBut p.1 s.heap s'.heap) (a1 : ∃ o, s'.heap.get? p.1 = some o) (z : Step F m m s s' → CellAt X m.M (NF F m) s'.heap p c) : Step F m m s s' ∧ Inv X F ρ { σ with pi := σ.pi.set i c } m s'.heap := by
  have k : ∀ b o, b ≠ p.1 → s.heap.get? b = some o → s'.heap.get? b = some o := fun b o n e => by rw [sb.2 b n]; exact e
  refine I.set e sm (fun b o n _ => k b o n) a1 ?_ z
  by_cases w : p.2 = p.1
  · exact w ▸ a1
  · obtain ⟨o, ho⟩ := I.there p.2 (.inl (fl_get e).2)
    exact ⟨o, k _ o w ho⟩
theorem plain_mapSeq {a : Addr} {vs ws : List Value} (p : h.PlainList a vs.toArray) (f : Array Value → Array Value) (e : f vs.toArray = ws.toArray) : (h.update a (Obj.mapSeq f)).PlainList a ws.toArray := by
  obtain ⟨n, p⟩ := p
  exact ⟨_, e ▸ PySem.IsL.update (h := h) (l := a) (items := vs.toArray) (n := n) p f⟩
theorem place_is {n : Nat} {i : Int} {j : Nat} (h : place n i = some j) : (0 ≤ i ∧ i < n ∧ i.toNat = j) ∨ (i < 0 ∧ -(n : Int) ≤ i ∧ (i + n).toNat = j) := by
  cases i with
  | ofNat k => exact onOW h fun q h => .inl ⟨Int.natCast_nonneg k, Int.ofNat_lt.mpr (Nat.blt_eq.mp q), Option.some.inj h⟩
  | negSucc k => exact onOW h fun q h => by have := Nat.blt_eq.mp q; have := Option.some.inj h; exact .inr ⟨Int.negSucc_lt_zero k, by omega, by omega⟩
theorem list_store {x : Addr} {vs : List Value} {l l' : List D} {key : Value} {Q : Unit → Shared → Prop} (p : s.heap.PlainList x vs.toArray) (hz : l.length ≤ sizeLine) (rs : Reps X m.M (NF F m) s.heap vs l) (rk : Rep X m.M (NF F m) s.heap key a) (rd : Rep X m.M (NF F m) s.heap v d) (q : listSet l a d = some l')
    (hQ : ∀ s', Same s s' → Heap.SameBut x s.heap s'.heap → (∃ o, s'.heap.get? x = some o) → (Step F m m s s' → CellAt X m.M (NF F m) s'.heap (x, x) (.lst l')) → Q () s') : wpAny (model X.prog X.w) A (PySem.setItem (.ref x) key v) Q E s := by
  refine bindW q fun i w1 q1 => bindW q1 fun j w2 q2 => ?_
  cases dInt_is w1; cases q2
  obtain ⟨t, rfl⟩ := rk
  have hl := rs.length
  rw [← hl] at w2
  obtain ⟨n, ho⟩ := p
  have go : ∀ f : Nat, f = j → Q () { s with heap := s.heap.update x (Obj.mapSeq (·.setIfInBounds f v)) } := fun f e => by
    have p' := plain_mapSeq (h := s.heap) (vs := vs) (ws := vs.set j v) ⟨n, ho⟩ (fun x => x.setIfInBounds f v) (by subst e; exact List.setIfInBounds_toArray ..)
    exact hQ _ ⟨_, _, rfl⟩ (Heap.SameBut.update ..) (let ⟨_, e⟩ := p'; ⟨_, e⟩) fun st => ⟨p', by rw [List.length_set]; exact hz, (rs.set j rd).step st⟩
  rcases place_is w2 with ⟨h0, h1, e⟩ | ⟨h0, h1, e⟩
  · exact ki_setAt (items := vs.toArray) (n := n) ho h0 (Int.lt_trans h1 (fit63 (Nat.le_trans (Nat.le_of_eq hl) hz))) h1 (go _ e)
  · exact ki_setBack (items := vs.toArray) (n := n) ho h0 h1 (Int.le_trans (by decide : -(2 ^ 63 : Int) ≤ -(16777216 : Nat)) (Int.le_trans (Int.neg_le_neg (Int.ofNat_le.mpr (sizeLine_eq ▸ Nat.le_trans (Nat.le_of_eq hl) hz))) h1)) (go _ e)
theorem dictSet_inv {ks ds : List D} {x' : Cell} (l : ks.length = ds.length) (q : dictSet ks ds a d = some x') : (∃ j, ks[j]? = some a ∧ x' = .dct ks (ds.set j d)) ∨ (a ∉ ks ∧ ds.length < 900 ∧ x' = .dct (ks ++ [a]) (ds ++ [d]) ∧ ((∃ i, a = .int i ∧ allD isIntD ks = true) ∨ ∃ i, a = .str i ∧ allD isStrD ks = true)) ∨ (ks = [] ∧ ∃ r, a = keyD r ∧ x' = .tab [r] [d]) := by
  unfold dictSet at q
  cases w : dset ks ds a d with
  | some ds' =>
    rw [w] at q
    obtain ⟨j, hj, rfl⟩ := dset_is w
    exact .inl ⟨j, hj, (Option.some.inj q).symm⟩
  | none =>
    rw [w] at q
    refine onOW q fun w1 q => .inr ?_
    have w1 := Nat.blt_eq.mp w1
    cases a with
    | int i => exact onOW q fun w2 q => .inl ⟨dset_no (show keyIs (.int i) (.int i) = true from decide_eq_true rfl) l w, w1, (Option.some.inj q).symm, .inl ⟨i, rfl, w2⟩⟩
    | str i => exact onOW q fun w2 q => .inl ⟨dset_no (show keyIs (.str i) (.str i) = true from sq_iff.mpr rfl) l w, w1, (Option.some.inj q).symm, .inr ⟨i, rfl, w2⟩⟩
    | tup y =>
      clear w w1 l
      cases ks with
      | cons => exact nn q
      | nil => exact bindW q fun r e q => .inr ⟨rfl, r, rk_inv e, (Option.some.inj q).symm⟩
    | _ => exact nn q
section
variable {p : Addr × Addr} {ks ds : List D} {vs : List Value} {c : Nat} {key : Value} {Q : Unit → Shared → Prop} {K : Type} [DecidableEq K] {knd : KeyKind X.prog X.w K} {is : List K} {i : K} {j : Nat}
theorem dict_old (hk : knd.is i key = true) (hj : is[j]? = some i) (hm : s.heap.DictOf knd p.1 (is.zip vs)) (hn : is.length = vs.length) (z : vs.length ≤ 1000) (fin : ∀ s', Same s s' → Heap.SameBut p.1 s.heap s'.heap → s'.heap.DictOf knd p.1 (is.zip (vs.set j v)) → Q () s') : wpAny (model X.prog X.w) A (PySem.setItem (.ref p.1) key v) Q E s :=
  wpAny_setItem_pairs hk hm (fun h' hm' sb => fin _ ⟨_, _, rfl⟩ sb (by rw [stored_set (by obtain ⟨_, _, _, _, _, _, _, _, nd⟩ := hm; exact nd) hn hj] at hm'; exact hm')) (by rw [List.length_zip, hn, Nat.min_self, sizeLine_eq]; exact Nat.le_trans z (by decide))
theorem dict_new (hk : knd.is i key = true) (hj : i ∉ is) (hm : s.heap.DictOf knd p.1 (is.zip vs)) (hn : is.length = vs.length) (z : vs.length ≤ 1000) (fin : ∀ s', Same s s' → Heap.SameBut p.1 s.heap s'.heap → s'.heap.DictOf knd p.1 ((is ++ [i]).zip (vs ++ [v])) → Q () s') : wpAny (model X.prog X.w) A (PySem.setItem (.ref p.1) key v) Q E s :=
  wpAny_setItem_pairs hk hm (fun h' hm' sb => fin _ ⟨_, _, rfl⟩ sb (by rw [stored_new hn hj] at hm'; exact hm')) (by rw [List.length_zip, hn, Nat.min_self, sizeLine_eq]; exact Nat.le_trans z (by decide))
end
theorem tab_store (I : Inv X F ρ σ m s.heap) {p : Addr × Addr} {xs : List (RK × Addr × Value)} {ks : List RK} {ds : List D} {c : Nat} {r : RK} {key : Value} {Q : Unit → Shared → Prop} (hp : m.M[c]? = some p) (hx : xs.map (·.1) = ks) (t : TabO X s.heap p.1 xs) (r1 : Reps X m.M (NF F m) s.heap (xs.map fun x => .ref x.2.1) (ks.map keyD)) (r2 : Reps X m.M (NF F m) s.heap (xs.map (·.2.2)) ds)
    (nk : hasK (req r) ks = false) (z : ds.length < 900) (rk : Rep X m.M (NF F m) s.heap key (keyD r)) (rd : Rep X m.M (NF F m) s.heap v d) (hu : A.units + 8 < cLine) (hQ : ∀ s', Step F m m s s' → Inv X F ρ { σ with pi := σ.pi.set c (.tab (ks ++ [r]) (ds ++ [d])) } m s'.heap → Q () s') : wpAny (model X.prog X.w) A (PySem.setItem (.ref p.1) key v) Q E s := by
  obtain ⟨b, rfl, ra⟩ := rep_row rk
  have lx : xs.length = ds.length := (List.length_map _).symm.trans r2.length
  refine wpAny_setItem_heap (knd := Z.rowKind X.prog X.w) (k := r) (show A.units + 1 + 1 < cLine from Nat.lt_of_le_of_lt (Nat.add_le_add_left (by decide : 2 ≤ 8) _) hu) ra (tab_dict hx t r1) (fun h' hm' sb => ?_) (by rw [lx, sizeLine_eq]; exact Nat.le_trans (Nat.le_of_lt z) (by decide))
  rw [storedH_new (atKey_no hx nk)] at hm'
  obtain ⟨o, es, ep, ho, hxx, hdd, he, his, hnn⟩ := hm'
  have st := I.put (s' := { s with heap := h', toks := s.toks + (Z.rowKind X.prog X.w).draws r }) (c := .tab (ks ++ [r]) (ds ++ [d])) hp ⟨_, _, rfl⟩ sb ⟨o, ho⟩ fun st => .mk (xs := xs ++ [(r, b, v)]) (by rw [List.map_append, hx]; rfl) (by rw [List.length_append]; exact Nat.le_trans z (by decide)) ⟨ho, hxx, hdd, he, hnn⟩
    (by rw [List.map_append, List.map_append]; exact (r1.append (Reps.one rk)).step st) (by rw [List.map_append]; exact (r2.append (Reps.one rd)).step st)
  exact hQ _ st.1 st.2
theorem dict_store (I : Inv X F ρ σ m s.heap) {p : Addr × Addr} {ks ds : List D} {c : Nat} {x' : Cell} {key : Value} {Q : Unit → Shared → Prop} (hp : m.M[c]? = some p) (ca : CellAt X m.M (NF F m) s.heap p (.dct ks ds)) (rk : Rep X m.M (NF F m) s.heap key a) (rd : Rep X m.M (NF F m) s.heap v d) (q : dictSet ks ds a d = some x')
    (hu : A.units + 8 < cLine) (hQ : ∀ s', Step F m m s s' → Inv X F ρ { σ with pi := σ.pi.set c x' } m s'.heap → Q () s') : wpAny (model X.prog X.w) A (PySem.setItem (.ref p.1) key v) Q E s := by
  obtain @⟨vs, k, l, z, rs⟩ := ca
  have z' : vs.length ≤ 1000 := rs.length ▸ z
  have lk : ks.length = vs.length := l.trans rs.length.symm
  have fin : ∀ {ks' ds' : List D} {vs' : List Value}, Reps X m.M (NF F m) s.heap vs' ds' → ks'.length = ds'.length → ds'.length ≤ 1000 → x' = .dct ks' ds' → ∀ s', Same s s' → Heap.SameBut p.1 s.heap s'.heap → Keyed X s'.heap p.1 ks' vs' → Q () s' := fun rs l z e s' sm sb kd =>
    let st := I.put hp sm sb kd.there fun st => e.symm ▸ .mk (.key kd) l z (rs.step st)
    hQ _ st.1 st.2
  rcases dictSet_inv l q with ⟨j, hj, e⟩ | ⟨hn, h9, e, q⟩ | ⟨rfl, r, rfl, rfl⟩
  · have fin := fin (rs.set j rd) (by rw [List.length_set]; exact l) (by rw [List.length_set]; exact z) e
    rcases k with ⟨_, rfl⟩ | @⟨@⟨is, rfl, dm⟩ | @⟨is, rfl, dm⟩⟩
    · cases hj
    · rw [List.getElem?_map] at hj
      obtain ⟨i, e, rfl⟩ := Option.map_eq_some_iff.mp hj
      obtain ⟨t, rfl⟩ := rk
      exact dict_old (intKind_is _ _ i t) e dm ((List.length_map _).symm.trans lk) z' fun s' sm sb e => fin s' sm sb (.int rfl e)
    · rw [List.getElem?_map] at hj
      obtain ⟨i, e, rfl⟩ := Option.map_eq_some_iff.mp hj
      obtain @⟨t, rfl, _⟩ := rk
      exact dict_old (strKind_is _ _ i t) e dm ((List.length_map _).symm.trans lk) z' fun s' sm sb e => fin s' sm sb (.str rfl e)
  · have fin := fin (rs.append (Reps.one rd)) (by rw [List.length_append, List.length_append, l]; rfl) (by rw [List.length_append]; exact Nat.le_trans h9 (by decide)) e
    rcases q with ⟨i, rfl, q'⟩ | ⟨i, rfl, q'⟩
    · obtain ⟨is, rfl, dm⟩ := dct_int k q'
      obtain ⟨t, rfl⟩ := rk
      exact dict_new (intKind_is _ _ i t) (fun w => hn (List.mem_map_of_mem w)) dm ((List.length_map _).symm.trans lk) z' fun s' sm sb e => fin s' sm sb (.int (is := is ++ [i]) (by rw [List.map_append]; rfl) e)
    · obtain ⟨is, rfl, dm⟩ := dct_str k q'
      obtain @⟨t, rfl, _⟩ := rk
      exact dict_new (strKind_is _ _ i t) (fun w => hn (List.mem_map_of_mem w)) dm ((List.length_map _).symm.trans lk) z' fun s' sm sb e => fin s' sm sb (.str (is := is ++ [i]) (by rw [List.map_append]; rfl) e)
  · obtain rfl := List.length_eq_zero_iff.mp l.symm
    exact tab_store I (xs := []) (ks := []) (ds := []) hp rfl (emp_tab (dct_emp k)) rfl rfl rfl (by decide) rk rd hu hQ
end
end Mine
end
noncomputable section
namespace Mine
open PySem PySem.W PyProof.Rows PySem.Calls PySem.SeqAt
noncomputable def Kont (X : Wd) (C : CRel) (R : Out) (F : Fm) (ρ : Rho) (m : Ms) (s : Shared) (κ : V → St → Tr) (Q : Value → Shared → Prop) : Prop :=
  ∀ u v σ' m' s', Step F m m' s s' → Inv X F ρ σ' m' s'.heap → RepV X F m' s'.heap u v → Run C (κ v σ') R → Q u s'
section
variable {C : CRel} {R : Out} {X : Wd} {s s' : Shared} {A : Around} {E : Value → Shared → Prop} {Q : Value → Shared → Prop} {u w : Value} {v : V} {a b d : D} {F : Fm} {m : Ms} {ρ : Rho} {σ σ' : St} {h h' : Heap} {κ : V → St → Tr}
theorem Kont.at (K : Kont X C R F ρ m s κ Q) (I : Inv X F ρ σ m s.heap) (h : Run C (κ (.dat d) σ) R) (tk : Nat) (r : Rep X m.M (NF F m) s.heap u d) : Q u { s with toks := tk } := K u (.dat d) σ m _ (I.toks tk) I r h
theorem Kont.ext (K : Kont X C R F ρ m s κ Q) (I : Inv X F ρ σ m s.heap) (h : Run C (κ (.dat d) σ) R) (sm : Same s s') (k : ∀ b o, s.heap.get? b = some o → s'.heap.get? b = some o) (r : Step F m m s s' → Rep X m.M (NF F m) s'.heap u d) : Q u s' :=
  let st := I.ext sm k; K u (.dat d) σ m _ st.1 st.2 (r st.1) h
theorem nfr (I : Inv X F ρ σ m s.heap) {o : Obj} : ¬ NF F m s.heap.objs.size ∧ ∀ b x, s.heap.get? b = some x → (s.heap.push o).get? b = some x := ⟨I.fresh, push_ext _ _⟩
theorem row_at (I : Inv X F ρ σ m s.heap) {l : List D} (ru : RepV X F m s.heap u v) (q : rowOf v σ = some l) : ∃ ad vs, u = .ref ad ∧ (s.heap.IsList ad vs.toArray ∨ PTup s.heap ad vs) ∧ l.length ≤ sizeLine ∧ Reps X m.M (NF F m) s.heap vs l := by
  cases v with
  | loc i =>
    obtain ⟨ad, e, rfl⟩ := ru
    obtain @⟨vs, p, z, rs⟩ := I.lst _ _ _ e q
    exact ⟨ad, vs, rfl, .inl p.isList, z, rs⟩
  | dat v =>
    cases v with
    | tup l' => cases q; obtain @⟨ad, vs, e, _, t, z, p⟩ := ru; exact ⟨ad, vs, e, .inr t, z, p⟩
    | lst l' => cases q; obtain @⟨ad, vs, e, _, t, z, p⟩ := ru; exact ⟨ad, vs, e, .inl t, z, p⟩
    | cell c =>
      obtain @⟨p, e, rfl⟩ := ru
      refine bindW q fun y w q => ?_
      have ca := I.at_ _ _ _ e w
      cases y with
      | lst l' => cases q; obtain @⟨vs, p, z, rs⟩ := ca; exact ⟨_, vs, rfl, .inl p.isList, z, rs⟩
      | _ => exact nn q
    | _ => exact nn q
theorem tup_push {l : List D} {vs : List Value} (n : ¬ NF F m h.objs.size) (z : l.length ≤ sizeLine) (r : Reps X m.M (NF F m) (h.push { cls := .type "tuple", data := .seq vs.toArray }) vs l) : Rep X m.M (NF F m) (h.push { cls := .type "tuple", data := .seq vs.toArray }) (.ref h.objs.size) (.tup l) :=
  .mk rfl n ⟨_, Heap.get?_push_size _ rfl⟩ z r
theorem lst_push {l : List D} {vs : List Value} (n : ¬ NF F m h.objs.size) (z : l.length ≤ sizeLine) (r : Reps X m.M (NF F m) (h.push { cls := .type "list", data := .seq vs.toArray }) vs l) : Rep X m.M (NF F m) (h.push { cls := .type "list", data := .seq vs.toArray }) (.ref h.objs.size) (.lst l) :=
  .mk rfl n ⟨_, Heap.get?_push_size _ rfl, rfl, _, rfl⟩ z r
theorem fresh_none (h : Heap) : h.get? h.objs.size = none := by
  cases q : h.get? h.objs.size with
  | none => rfl
  | some o => exact absurd (Heap.lt_size q) (Nat.lt_irrefl _)
theorem tuple_of (I : Inv X F ρ σ m s.heap) {ad : Addr} {vs : List Value} {l : List D} (K : Kont X C R F ρ m s κ Q) (h : Run C (κ (.dat (.tup l)) σ) R) (t : s.heap.IsList ad vs.toArray) (z : l.length ≤ sizeLine) (p : Reps X m.M (NF F m) s.heap vs l) : wpAny (model X.prog X.w) A (PySem.call (.type "tuple") [.ref ad]) Q E s := by
  have z' : vs.length ≤ sizeLine := p.length ▸ z
  refine PySem.call_tuple_list t (fun h' kk => ?_) z'
  obtain ⟨st, I'⟩ := I.ext (s' := { s with heap := h' }) ⟨_, _, rfl⟩ kk
  have := (nfr I' (o := { cls := .type "tuple", data := .seq vs.toArray }))
  exact K.ext I h ⟨_, _, rfl⟩ (fun b o e => this.2 b o (kk b o e)) (fun st => tup_push this.1 z (p.step st))
theorem bi1_at {b : Bi} (sy : ∃ o, X.hb.get? sysModules = some o) (h : Run C (bi1 b v σ κ) R) (I : Inv X F ρ σ m s.heap) (ru : RepV X F m s.heap u v) (K : Kont X C R F ρ m s κ Q) : wpAny (model X.prog X.w) A (PySem.call b.val [u]) Q E s := by
  cases b with
  | len =>
    refine liftW h fun l q h => ?_
    obtain ⟨ad, vs, rfl, t, z, p⟩ := row_at I ru q
    have fin : ∀ t tk, Q (.int ((vs.toArray.size : Nat) : Int) t) { s with toks := tk } := fun t tk => K.at I h _ (by rw [List.size_toArray, p.length]; exact rInt _ _)
    have z : ((vs.toArray.size : Nat) : Int) < 2 ^ 63 := fit63 (Nat.le_trans (Nat.le_of_eq p.length) z)
    rcases t with t | t
    · exact PyProof.Rows.len_list t z (fin _ _)
    · exact PyProof.Rows.len_tuple t.tup z (fin _ _)
  | range =>
    cases v with
    | loc => exact h.elim
    | dat d =>
      refine gInt ru h fun n t e h => onBW h fun q h => ?_
      subst e
      have := nfr I (o := { cls := .type "range", data := .fields #[.int 0 s.toks, .int n t, .int 1 (s.toks + 1)] })
      exact PySem.call_range_1 (K.ext I h ⟨_, _, rfl⟩ this.2 (fun st => RRng.mk rfl this.1 (Heap.get?_push_size _ rfl) q))
  | strT =>
    cases v with
    | loc => exact h.elim
    | dat d =>
      refine gInt ru h fun n t e h => ?_
      subst e
      exact PySem.P.str_of_int (small_log h.1) (K.at I h.2 _ (rStr _ (int_text_fits (small_log h.1))))
  | chr =>
    cases v with
    | loc => exact h.elim
    | dat d =>
      refine liftW h fun n e h => ?_
      cases dNat_is e
      obtain ⟨t, rfl⟩ := ru
      exact PyProof.Rows.chr_of_range (Int.natCast_nonneg n) (Int.ofNat_le.mpr (Nat.le_trans (Nat.le_of_lt (Nat.blt_eq.mp h.1)) (by decide : 128 ≤ 1114111))) (K.at I h.2 _ (rStr _ (by rw [sizeLine_eq]; exact (by decide : 1 ≤ 16777216))))
  | listT =>
    cases v with
    | loc => exact h.elim
    | dat d =>
      refine liftW h fun l e h => ?_
      cases dTup_is e
      obtain @⟨ad, vs, rfl, _, ⟨n, e⟩, z, p⟩ := ru
      refine PySem.call_list_seq ad (.inr rfl) e rfl rfl (fun h3 c3 kk hD => ?_) (Nat.le_trans (Nat.le_of_eq p.length) z)
      obtain ⟨st, I'⟩ := I.addL (s' := { s with heap := h3 }) (ds := l) ⟨_, _, rfl⟩ kk (fresh_none _) ⟨_, hD⟩ fun st => ⟨⟨_, hD⟩, z, p.step st⟩
      exact K _ (.loc _) _ _ _ st I' (Exists.intro s.heap.objs.size ⟨by rw [← I.llen]; exact List.getElem?_concat_length, rfl⟩) h
  | tupleT =>
    cases v with
    | loc i =>
      refine liftW h fun l e h => ?_
      obtain ⟨ad, e', rfl⟩ := ru
      obtain @⟨vs, t, z, p⟩ := I.lst _ _ _ e' e
      exact tuple_of I K h t.isList z p
    | dat d =>
      cases d with
      | tup l =>
        obtain @⟨ad, vs, rfl, n, t, z, p⟩ := ru
        exact PyProof.Rows.call_tuple_tup t.tup (K.at I h s.toks (RSeq.mk rfl n t z p))
      | lst l =>
        obtain @⟨ad, vs, rfl, n, t, z, p⟩ := ru
        exact tuple_of I K h t z p
      | _ => exact h.elim
  | dictT =>
    cases v with
    | loc => exact h.elim
    | dat d =>
      have h : Run C (match thaw σ d with | .dct ks ds => onB (intKeyed ks && Nat.blt ds.length 900) (κ (.dat (.cell σ.pi.length)) { σ with pi := σ.pi ++ [.dct ks ds] }) | _ => .fail) R := h
      cases w : thaw σ d with
      | dct ks ds =>
        rw [w] at h
        refine onBW h fun q h => ?_
        obtain ⟨q1, q2⟩ := Bool.and_eq_true_iff.mp q
        obtain @⟨ad, vs, rfl, sy, k, l, p⟩ := thaw_dct sy I ru w
        rcases k with @⟨is, rfl, dm⟩ | @⟨is, rfl, dm⟩
        · have z := Nat.blt_eq.mp q2
          have lv : is.length = vs.length := ((List.length_map _).symm.trans l).trans p.length.symm
          refine kt_call_dict (knd := intKind X.prog X.w) sy dm (by rw [List.length_zip, lv, Nat.min_self, p.length, sizeLine_eq]; exact Nat.le_trans (Nat.le_of_lt z) (by decide)) fun h' hm' sb => ?_
          have kk : ∀ b o, s.heap.get? b = some o → h'.get? b = some o := fun b o e => by
            rw [sb.2 b (fun w => nos (fresh_none _) (w ▸ e))]; exact push_ext _ _ _ _ e
          have al : ∃ o, h'.get? s.heap.objs.size = some o := by obtain ⟨o, _, _, e, _⟩ := hm'; exact ⟨o, e⟩
          obtain ⟨st, I'⟩ := I.add (s' := { s with heap := h' }) (p := (s.heap.objs.size, s.heap.objs.size)) (c := .dct (is.map D.int) ds) ⟨_, _, rfl⟩ kk (fresh_none _) (fresh_none _) al al fun st => ⟨.key (.int rfl hm'), l, Nat.le_trans (Nat.le_of_lt z) (by decide), p.step st⟩
          exact K _ (.dat (.cell _)) _ _ _ st I' (RCell.mk (by rw [← I.len]; exact List.getElem?_concat_length) rfl) h
        · cases is <;> exact nf q1
      | _ => rw [w] at h; exact h.elim
  | _ => exact h.elim
theorem bi2_at {b : Bi} {d' : D} (hh : A.handled = none) (h : Run C (bi2 b d d' fun r => κ (.dat r) σ) R) (I : Inv X F ρ σ m s.heap) (r1 : Rep X m.M (NF F m) s.heap u d) (r2 : Rep X m.M (NF F m) s.heap w d') (K : Kont X C R F ρ m s κ Q) : wpAny (model X.prog X.w) A (PySem.call b.val [u, w]) Q E s := by
  cases b with
  | max =>
    refine gInt r1 h fun i t e h => gInt r2 h fun j t' e' h => ?_
    subst e e'
    refine PySem.max_two_ints hh fun h' tk kk => K.ext I h ⟨_, _, rfl⟩ kk fun st => ?_
    by_cases q : i < j
    · rw [if_pos q, if_pos q]; exact rInt _ _
    · rw [if_neg q, if_neg q]; exact rInt _ _
  | min =>
    refine gInt r1 h fun i t e h => gInt r2 h fun j t' e' h => ?_
    subst e e'
    refine PySem.min_two_ints hh fun h' tk kk => K.ext I h ⟨_, _, rfl⟩ kk fun st => ?_
    by_cases q : j < i
    · rw [if_pos q, if_pos q]; exact rInt _ _
    · rw [if_neg q, if_neg q]; exact rInt _ _
  | isinst =>
    refine onBW h fun q h => ?_
    cases d' with
    | bi b => cases b with
      | strT =>
        cases r2
        cases d with
        | str x => obtain @⟨t, rfl, _⟩ := r1; exact PySem.IsiPair.str_str (K.at I (d := .bool _) h _ rfl)
        | tup l => obtain @⟨ad, vs, rfl, _, t, _⟩ := r1; exact PySem.IsiPair.isTuple_str t.tup (fun _ _ e => e) (K.at I (d := .bool _) h _ rfl)
        | _ => exact h.elim
      | _ => exact nf q
    | _ => exact nf q
  | _ => exact h.elim
end
end Mine
end
noncomputable section
namespace Mine
open PySem PySem.W PyProof.Rows PySem.Calls PySem.SeqAt
noncomputable def Mt.id : Mt → String
  | .append => "list.append"
  | .extend => "list.extend"
  | .pop => "list.pop"
  | .get => "dict.get"
  | .join => "str.join"
noncomputable def Mt.name : Mt → Str
  | .append => Str.ofString "append"
  | .extend => Str.ofString "extend"
  | .pop => Str.ofString "pop"
  | .get => Str.ofString "get"
  | .join => Str.ofString "join"
theorem sget_is {α : Type} {f : α → Str} {x : Str} {v : α} : ∀ {l : List (Str × α)}, (∀ p ∈ l, p.1 = f p.2) → sget l x = some v → x = f v
  | [], _, h => nn h
  | (k, a) :: l, g, h => by
    unfold sget at h
    cases q : sq x k with
    | true => rw [q] at h; exact Option.some.inj h ▸ (sq_iff.mp q).trans (g _ List.mem_cons_self)
    | false => rw [q] at h; exact sget_is (fun p m => g p (List.mem_cons_of_mem _ m)) h
theorem mt_name {x : Str} {m : Mt} (h : sget mts x = some m) : x = m.name := sget_is (by decide +kernel) h
theorem glue_len : ∀ l : List Str, (glue l).length = lenSum l
  | [] => rfl
  | [x] => rfl
  | x :: y :: r => by show (x ++ glue (y :: r)).length = x.length + lenSum (y :: r); rw [len_cat, glue_len]
theorem lenSum_is : ∀ l : List Str, (l.map (·.length)).sum = lenSum l
  | [] => rfl
  | x :: r => by rw [List.map_cons, List.sum_cons, lenSum_is]; rfl
theorem glued_go : ∀ (r : List Str) (c : Array Nat), (r.foldl (fun acc p => acc ++ (⟨#[]⟩ : Str).cps ++ p.cps) c) = c ++ (glue r).cps
  | [], c => Array.append_empty.symm
  | [x], c => by rw [List.foldl_cons, Array.append_empty]; rfl
  | x :: y :: r, c => by
    rw [List.foldl_cons, glued_go (y :: r), Array.append_empty, Array.append_assoc]; rfl
theorem glue_is : ∀ l : List Str, Txt.join ⟨#[]⟩ l = glue l
  | [] => rfl
  | x :: r => by
    show (⟨(r.foldl (fun acc p => acc ++ (⟨#[]⟩ : Str).cps ++ p.cps) x.cps)⟩ : Str) = _
    rw [glued_go]
    cases r with
    | nil => exact congrArg Str.mk Array.append_empty
    | cons y r => rfl
section
variable {C : CRel} {R : Out} {X : Wd} {s s' : Shared} {A : Around} {E : Value → Shared → Prop} {Q : Value → Shared → Prop} {u w : Value} {v : V} {a b d : D} {F : Fm} {m : Ms} {ρ : Rho} {σ σ' : St} {h h' : Heap} {κ : V → St → Tr} {us vs : List Value} {l ds : List D} {x : Addr} {M : Lg} {N : Addr → Prop}
theorem one_is {α : Type} {l : List α} {a : α} (h : one l = some a) : l = [a] := by
  cases l with
  | nil => exact nn h
  | cons b t => cases t with
    | nil => exact Option.some.inj h ▸ rfl
    | cons => exact nn h
theorem two_is {α : Type} {l : List α} {a : α × α} (h : two l = some a) : l = [a.1, a.2] := by
  cases l with
  | nil => exact nn h
  | cons b t => exact bindW h fun c w h => by rw [one_is w, ← Option.some.inj h]
theorem strs_are : ∀ {ds : List D} {ys : List Str} {vs : List Value}, Reps X M N h vs ds → strsOf ds = some ys → StrsAre vs ys
  | [], _, _, r, e => by cases r; cases e; exact .nil
  | d :: ds, ys, _, r, e => by
    refine bindW e fun y w e => bindW e fun ys' w' e => ?_
    rw [dStr_is w] at r
    obtain @⟨_, _, rfl, @⟨t, rfl, _⟩, r⟩ := r
    exact Option.some.inj e ▸ .cons _ _ (strs_are r w')
theorem append_at {Q : Value → Shared → Prop} (p : s.heap.PlainList x vs.toArray) (rs : Reps X m.M (NF F m) s.heap vs l) (rd : Rep X m.M (NF F m) s.heap w d) (hc : chk (l.length + 1) = true)
    (hQ : ∀ s', Same s s' → Heap.SameBut x s.heap s'.heap → (∃ o, s'.heap.get? x = some o) → (Step F m m s s' → CellAt X m.M (NF F m) s'.heap (x, x) (.lst (l ++ [d]))) → Q .none s') : wpAny (model X.prog X.w) A (PySem.call (.builtin "list.append") [.ref x, w]) Q E s := by
  refine wpAny_list_append_plain p (fun h' p' sb => ?_) (by show vs.length ≤ _; rw [rs.length]; exact Nat.le_of_succ_le (chk_le hc))
  have p2 : h'.PlainList x (vs ++ [w]).toArray := by rw [List.push_toArray] at p'; exact p'
  exact hQ { s with heap := h' } ⟨_, _, rfl⟩ sb (let ⟨_, e⟩ := p'; ⟨_, e⟩) fun st => ⟨p2, by rw [List.length_append]; exact chk_le hc, (rs.append (Reps.one rd)).step st⟩
theorem locM_at {mm : Mt} {i : Nat} {r : D × List D} (I : Inv X F ρ σ m s.heap) (hx : m.K[i]? = some x) (hl : σ.lc[i]? = some l) (rs : Reps X m.M (NF F m) s.heap us ds) (q : locM mm l ds = some r)
    (hQ : ∀ u s', Step F m m s s' → Inv X F ρ { σ with lc := σ.lc.set i r.2 } m s'.heap → Rep X m.M (NF F m) s'.heap u r.1 → Q u s') : wpAny (model X.prog X.w) A (PySem.call (.builtin mm.id) (.ref x :: us)) Q E s := by
  obtain @⟨vs, p, z, rl⟩ := I.lst _ _ _ hx hl
  have fin : ∀ u s', Same s s' → Heap.SameBut x s.heap s'.heap → (∃ o, s'.heap.get? x = some o) → (Step F m m s s' → CellAt X m.M (NF F m) s'.heap (x, x) (.lst r.2)) → (Step F m m s s' → Rep X m.M (NF F m) s'.heap u r.1) → Q u s' := fun u s' sm sb al z rr =>
    let st := I.setL hx sm (fun b o n e => by rw [sb.2 b n]; exact e) al z
    hQ u s' st.1 st.2 (rr st.1)
  have zl : vs.length ≤ sizeLine := rl.length ▸ z
  clear hQ hl hx
  cases mm with
  | append =>
    refine bindW q fun d w1 q => onOW q fun hc q => ?_
    rw [one_is w1] at rs
    obtain @⟨w, _, rfl, rw_, rr⟩ := rs
    cases rr
    cases q
    exact append_at p rl rw_ hc fun s' sm sb al z => fin _ s' sm sb al z fun _ => rfl
  | extend =>
    refine bindW q fun d w1 q => bindW q fun t e q => onOW q fun hc q => ?_
    rw [one_is w1] at rs
    obtain @⟨w, _, rfl, rw_, rr⟩ := rs
    cases rr
    rw [dTup_is e] at rw_
    obtain @⟨b, ws, rfl, _, ⟨n2, e2⟩, z1, p1⟩ := rw_
    cases q
    obtain ⟨n, e⟩ := p
    have hz : (vs ++ ws).length ≤ sizeLine := by rw [List.length_append, rl.length, p1.length]; exact chk_le hc
    have p2 := plain_mapSeq (h := s.heap) (a := x) (vs := vs) (ws := vs ++ ws) ⟨n, e⟩ (fun x => x ++ ws.toArray) (by rw [List.append_toArray])
    rw [List.length_append] at hz
    refine call_meets PySem.F.slot_list_extend ⟨_, e, rfl⟩ PySem.F.entry_list_extend (PySem.F.args_list_extend_2 _ _)
      (PySem.AutoSeq1.list_extend_list_tuple_0 x vs.toArray n b ws.toArray n2 (extend_door hz) zl (Nat.le_succ_of_le hz)) ⟨e, e2, ?_⟩
    exact fin _ { s with heap := _ } ⟨_, _, rfl⟩ (Heap.SameBut.update ..) (let ⟨_, e⟩ := p2; ⟨_, e⟩) (fun st => ⟨p2, by rw [List.length_append]; exact chk_le hc, (rl.append p1).step st⟩) fun _ => rfl
  | pop =>
    cases ds with
    | cons => exact nn q
    | nil =>
      refine bindW q fun d hd q => ?_
      cases rs
      cases q
      obtain ⟨ys, rfl⟩ := List.getLast?_eq_some_iff.mp hd
      obtain ⟨n, e⟩ := p
      have hv : vs = vs.take ys.length ++ vs.drop ys.length := (List.take_append_drop _ _).symm
      have r1 := rl.take ys.length
      have r2 := rl.drop ys.length
      rw [List.take_left] at r1
      rw [List.drop_left] at r2
      obtain @⟨y, _, hd', ry, hn⟩ := r2
      cases hn
      rw [hd'] at hv
      have lt : (vs.take ys.length).length = ys.length := r1.length
      generalize vs.take ys.length = ws at hv r1 lt
      subst hv
      have sz : (ws ++ [y]).toArray.size - 1 = ws.length := by rw [List.size_toArray, List.length_append]; rfl
      refine call_meets PySem.F.slot_list_pop ⟨_, e, rfl⟩ PySem.F.entry_list_pop (PySem.F.args_list_pop_1 _) (PySem.MeetsSeq.list_pop_last x (ws ++ [y]).toArray n y (by rw [sz, List.getElem?_toArray, List.getElem?_concat_length]) zl) ⟨e, ?_⟩
      have p2 := plain_mapSeq (h := s.heap) (a := x) (vs := ws ++ [y]) (ws := ws) ⟨n, e⟩ (fun x => x.eraseIdxIfInBounds ((ws ++ [y]).toArray.size - 1)) (by
        have k := kl_erase ws [] y
        rw [sz]; rw [List.append_nil] at k; exact k)
      exact fin _ { s with heap := _ } ⟨_, _, rfl⟩ (Heap.SameBut.update ..) (let ⟨_, e⟩ := p2; ⟨_, e⟩) (fun st => ⟨p2, by rw [List.dropLast_concat]; exact Nat.le_trans (by rw [List.length_append]; exact Nat.le_add_right _ _) z, by rw [List.dropLast_concat]; exact r1.step st⟩) fun st => ry.step st
  | _ => exact nn q
theorem lst_mt {mm : Mt} {pl : Sem Bool} {Q : Value × List Value → Shared → Prop} (p : s.heap.PlainList x vs.toArray) (q : isLM mm = true) (hQ : Q (.builtin mm.id, [.ref x]) s) : wpAny (model X.prog X.w) A (getMethod (.ref x) mm.name pl) Q E s := by
  obtain ⟨n, p⟩ := p
  have nd : ∀ b, Value.ref x = .ref b → ∃ o, s.heap.get? b = some o ∧ o.dict = none := fun b e => by cases e; exact ⟨_, p, rfl⟩
  have ty : s.TypeIs (.ref x) "list" := ⟨_, p, rfl⟩
  cases mm with
  | append => exact getMethod_builtin ty PySem.F.plainAttrs_list PySem.F.slot_list_append PySem.F.type_list_append nd hQ
  | extend => exact getMethod_builtin ty PySem.F.plainAttrs_list PySem.F.slot_list_extend PySem.F.type_list_extend nd hQ
  | pop => exact getMethod_builtin ty PySem.F.plainAttrs_list PySem.F.slot_list_pop PySem.F.type_list_pop nd hQ
  | _ => exact nf q
end
end Mine
end
noncomputable section
namespace Mine
open PySem PySem.W PyProof.Rows PySem.Calls PySem.SeqAt Builtin Builtin.ObjectAttr
section
variable {prog : Program} {w : World} {A : Around} {E : Value → Shared → Prop} {s : Shared} {K : Frag} {C x : Addr}
theorem getL_no {es : List DictEntry} {name : Str} (e : getL name es = some none) : es.find? (fun e => e.key.isStr name) = none ∧ es.any (·.refKey) = false := by
  unfold getL at e
  cases h0 : es.find? (fun e => e.key.isStr name) with
  | some y => rw [h0] at e; cases e
  | none =>
    rw [h0] at e
    cases h1 : es.any (·.refKey) with
    | false => exact ⟨rfl, rfl⟩
    | true => simp only [h1, if_true] at e; exact nn e
theorem getL_snoc {es : List DictEntry} {name y : Str} {hs : Int} {t : Tok} {v : Value} (e : getL name es = some none) : getL y (es ++ [⟨hs, .str name t, v⟩]) = if y = name then some (some v) else getL y es := by
  obtain ⟨h0, h1⟩ := getL_no e
  unfold getL
  rw [List.find?_append, List.any_append, h1]
  by_cases q : y = name
  · rw [if_pos q, q, h0]
    simp [List.find?, Value.isStr]
  · have : (name == y) = false := beq_eq_false_iff_ne.mpr fun w => q w.symm
    have f : [(⟨hs, .str name t, v⟩ : DictEntry)].find? (fun e => e.key.isStr y) = none := by rw [List.find?_cons]; show (match name == y with | true => _ | false => _) = _; rw [this]; rfl
    rw [if_neg q, f, Option.or_none]; rfl
theorem put_snoc {name : Str} {hs : Int} {key v : Value} : ∀ {es : List DictEntry}, es.find? (fun e => e.key.isStr name) = none → putL name hs key v es = es ++ [⟨hs, key, v⟩]
  | [], _ => rfl
  | a :: r, h0 => by
    rw [List.find?_cons] at h0
    unfold putL
    cases q : a.key.isStr name with
    | true => rw [q] at h0; cases h0
    | false => rw [q] at h0; rw [if_neg Bool.false_ne_true, put_snoc h0]; rfl
theorem tail_store {dx : Addr} {name : Str} {v : Value} {es : List DictEntry} {n : Nat} {tk0 : Tok} {Q : Fin → Shared → Prop} (D : s.heap.get? dx = some (dictOf es n)) (hg : getL name es = some none) (hz : es.length < 1000)
    (h : ∀ h' hsh t n' tk, Heap.SameBut dx s.heap h' → h'.get? dx = some (dictOf (es ++ [⟨hsh, .str name t, v⟩]) n') → Q (.done (.ret .none)) { s with heap := h', toks := tk }) :
    wpAny (model prog w) A (storeInDict dx (.str name tk0) name v) Q E s := by
  refine wpAny_bind (wpAny_pure (wpAny_bind ?_))
  unfold nsSet
  refine wpAny_bind (wpAny_bind (wpAny_askSetting (wpAny_pure (wpAny_bind (wpAny_mkText (wpAny_bind (wpAny_loadPart D ?_)))))))
  dsimp only
  obtain ⟨h0, h1⟩ := getL_no hg
  have c : (!es.toArray.any (·.key.isStr name) && es.toArray.any (·.refKey)) = false := by
    rw [← Array.any_toList, ← Array.any_toList, h1, Bool.and_false]
  rw [aRefKeyMayBeTheName_at, c]
  refine wpAny_updatePart D ?_
  have hu : (s.heap.update dx (Obj.putName name (PyData.keyHash w.params name) (.str name s.toks) v)).get? dx = some (dictOf (es ++ [⟨PyData.keyHash w.params name, .str name s.toks, v⟩]) (putN name es n)) := by
    rw [Heap.get?_update_self _ D (by rw [putName_dict]; rfl), putName_dict, put_snoc h0]
  have hz' : (es ++ [(⟨PyData.keyHash w.params name, .str name s.toks, v⟩ : DictEntry)]).toArray.size ≤ sizeLine := by rw [List.size_toArray, sizeLine_eq, List.length_append]; exact Nat.le_trans hz (by decide)
  refine wpAny_bind (wpAny_lookBehind (s := { s with heap := s.heap.update dx (Obj.putName name (PyData.keyHash w.params name) (.str name s.toks) v), toks := s.toks + 1 }) hu (by exact pastItsLine_dict (Nat.le_succ_of_le hz')) ?_)
  exact wpAny_pure (h _ _ _ _ _ (Heap.SameBut.update ..) hu)
theorem set_new {ox : Obj} {dx : Addr} {name : Str} {v : Value} {es : List DictEntry} {n : Nat} {Q : Unit → Shared → Prop} (X : K.In s.heap) (I : InstAt s.heap x ox C (some (dictOf es n))) (hd : ox.dict = some dx)
    (hs : findIn K (.ref C) "__setattr__" = some (some (.builtin "object.__setattr__"))) (hp : plainOver K C = true) (ht : takerIn K C name = some none) (hh : (clsIn K C).any (·.hasDict) = true) (hg : getL name es = some none) (hz : es.length < 1000)
    (h : ∀ h' hsh t n' tk, Heap.SameBut dx s.heap h' → h'.get? dx = some (dictOf (es ++ [⟨hsh, .str name t, v⟩]) n') → Q () { s with heap := h', toks := tk }) :
    wpAny (model prog w) A (PySem.setAttr (.ref x) name v) Q E s := by
  refine set_plain X I hs (osa_open (s := { s with toks := s.toks + 1 }) X I hp ht fun b => ?_)
  obtain ⟨cd, hc, hd'⟩ := any_some hh
  obtain ⟨hx, hcl, hn, hdx⟩ := I
  obtain ⟨oc, odi, oda, osl⟩ := ox
  dsimp only at hcl hd
  subst hcl hd
  have D : s.heap.get? dx = some (dictOf es n) := hdx
  refine wpAny_bind (wpAny_pure (wpAny_bind (wpAny_bind (wpAny_loadPart hx (wpAny_bind ((looks_clsIn X hc).here (s := { s with toks := s.toks + 1 }) ?_))))))
  rw [hd']
  refine wpAny_pure (a := some dx) ?_
  exact tail_store (s := { s with toks := s.toks + 1 }) D hg hz h
end
abbrev RQ (Q E : Value → Shared → Prop) (r : Result) (s' : Shared) : Prop := match r with
  | .ok (.ret v) => Q v s'
  | .ok _ => False
  | .error e => E e s'
noncomputable def CallOk (X : Wd) (k : Nat) : CRel := fun a args pi r pi' => ∀ (A : Around) (F : Fm) (ρ : Rho) (lc : List (List D)) (m : Ms) (s : Shared) (vs : List Value) (Q E : Value → Shared → Prop), AOk k A → Inv X F ρ ⟨pi, lc⟩ m s.heap → Reps X m.M (NF F m) s.heap vs args →
  (∀ v m' s', Step F m m' s s' → Inv X F ρ ⟨pi', lc⟩ m' s'.heap → Rep X m'.M (NF F m') s'.heap v r → Q v s') → codeAny (model X.prog X.w) A (.call (.ref a) ⟨vs, []⟩) (RQ Q E) s
structure Gk (X : Wd) (G : Cfg) : Prop where
  nolimit : X.hb.NoLimit
  sysIn : ∃ o, X.hb.get? sysModules = some o
  globOk : ∀ x d, G.glob x = some d → (x == ("__debug__" : Str)) = false ∧ ∃ v, (∃ mg mb, X.hb.Ns mainGlobals mg ∧ X.hb.Ns builtinsNs mb ∧ (mg x = some v ∨ (mg x = none ∧ mb x = some v))) ∧
    ∀ (M : Lg) (N : Addr → Prop) (h : Heap), (∀ b o, X.hb.get? b = some o → h.get? b = some o) → (∀ a, N a → X.hb.get? a = none) → Rep X M N h v d
  methOk : ∀ C x a, G.meth C x = some (some a) → ∀ (A : Around) (s : Shared) (p : Addr) (ox : Obj) (es : List DictEntry) (n : Nat) (pl : Sem Bool) (Q : Value × List Value → Shared → Prop) (E : Value → Shared → Prop),
    (∀ b o, X.hb.get? b = some o → s.heap.get? b = some o) → InstAt s.heap p ox C (some (dictOf es n)) → getL x es = some none → Q (.ref a, [.ref p]) s → wpAny (model X.prog X.w) A (getMethod (.ref p) x pl) Q E s
  getOk : ∀ C x, G.meth C x = some none → ∀ (A : Around) (s : Shared) (p : Addr) (ox : Obj) (es : List DictEntry) (n : Nat) (v : Value) (ex : Bool) (Q : Value → Shared → Prop) (E : Value → Shared → Prop),
    (∀ b o, X.hb.get? b = some o → s.heap.get? b = some o) → InstAt s.heap p ox C (some (dictOf es n)) → getL x es = some (some v) → handedIn v = true → Q v { s with toks := s.toks + 1 } → wpAny (model X.prog X.w) A (getAttr (.ref p) x ex) Q E s
  methFn : ∀ C x a, G.meth C x = some (some a) → ∃ o fd, X.hb.get? a = some o ∧ o.data = .func fd
  own : ∃ K : Frag, K.In X.hb ∧
    (∀ C x, G.sets C x = true → findIn K (.ref C) "__setattr__" = some (some (.builtin "object.__setattr__")) ∧ plainOver K C = true ∧ takerIn K C x = some none ∧ (clsIn K C).any (·.hasDict) = true) ∧
    (∀ C r, G.clsAt C = some r → makesIn K C = true ∧ keepIn K (.ref C) = true ∧ match r with
      | some f => findIn K (.ref C) "__init__" = some (some (.ref f)) ∧ typeIn K (.ref f) = some (.type "function")
      | none => findIn K (.ref C) "__init__" = some (some (.builtin "object.__init__")))
  gcls : ∀ x C, G.gcls x = some C → (x == ("__debug__" : Str)) = false ∧ (∃ mg, X.hb.Ns mainGlobals mg ∧ mg x = some (.ref C)) ∧ ∃ r, G.clsAt C = some r
section
variable {C : CRel} {R : Out} {X : Wd} {G : Cfg} {s s' : Shared} {A : Around} {E : Value → Shared → Prop} {Q : Value → Shared → Prop} {u w : Value} {v : V} {a b d : D} {F : Fm} {m : Ms} {ρ : Rho} {σ σ' : St} {h h' : Heap} {κ : V → St → Tr} {us vs : List Value} {l ds : List D} {x : Addr} {mm : Mt}
theorem not_sys (gk : Gk X G) (I : Inv X F ρ σ m h) {a : Addr} (f : fl m.M a) : (a == sysModules) = false := beq_eq_false_iff_ne.mpr fun e =>
  let ⟨_, q⟩ := gk.sysIn; nos (I.off _ (.inr (.inr (.inl f)))) (e ▸ q)
theorem ready_at {pl : Sem Bool} {Q : Value × List Value → Shared → Prop} (I : Inv X F ρ σ m s.heap) (r : Rep X m.M (NF F m) s.heap u d) (q : ready mm d σ = true) (hQ : Q (.builtin mm.id, [u]) s) : wpAny (model X.prog X.w) A (getMethod u mm.name pl) Q E s := by
  cases d with
  | cell c =>
    obtain @⟨p, e, rfl⟩ := r
    have nd : ∀ {o : Obj}, s.heap.get? p.1 = some o → o.dict = none → ∀ b, Value.ref p.1 = .ref b → ∃ o, s.heap.get? b = some o ∧ o.dict = none := fun g n b e => by cases e; exact ⟨_, g, n⟩
    cases mm with
    | append =>
      cases w : σ.pi[c]? with
      | none => simp only [ready, w] at q; exact nf q
      | some y => cases y with
        | lst l =>
          obtain @⟨vs, ⟨n, g⟩, _⟩ := I.at_ _ _ _ e w
          exact getMethod_builtin ⟨_, g, rfl⟩ PySem.F.plainAttrs_list PySem.F.slot_list_append PySem.F.type_list_append (nd g rfl) hQ
        | _ => simp only [ready, w] at q; exact nf q
    | get =>
      cases w : σ.pi[c]? with
      | none => simp only [ready, w] at q; exact nf q
      | some y => cases y with
        | tab ks ds =>
          obtain ⟨_, _, ⟨g, hx, _⟩, _⟩ := I.at_ _ _ _ e w
          exact getMethod_builtin ⟨_, g, hx.1⟩ PySem.F.plainAttrs_dict PySem.F.slot_dict_get PySem.F.type_dict_get (nd g hx.2.1) hQ
        | dct ks ds =>
          simp only [ready, w] at q
          obtain ⟨k, _⟩ := I.at_ _ _ _ e w
          cases k with
          | emp _ k => subst k; exact nf q
          | key k => rcases k with @⟨is, rfl, k⟩ | @⟨is, rfl, k⟩ <;> exact getMethod_builtin k.typeIs PySem.F.plainAttrs_dict PySem.F.slot_dict_get PySem.F.type_dict_get (dictOf_map k).noDict hQ
        | _ => simp only [ready, w] at q; exact nf q
    | _ => exact nf q
  | dct ks ds =>
    cases mm with
    | get =>
      obtain @⟨ad, vs, rfl, _, _, k, _⟩ := r
      rcases k with @⟨is, rfl, k⟩ | @⟨is, rfl, k⟩
      · exact getMethod_builtin k.typeIs PySem.F.plainAttrs_dict PySem.F.slot_dict_get PySem.F.type_dict_get (dictOf_map k).noDict hQ
      · exact getMethod_builtin k.typeIs PySem.F.plainAttrs_dict PySem.F.slot_dict_get PySem.F.type_dict_get (dictOf_map k).noDict hQ
    | _ => exact nf q
  | str x =>
    cases mm with
    | join => obtain @⟨t, rfl, _⟩ := r; exact getMethod_builtin (typeIs_str _ _ _) PySem.F.plainAttrs_str PySem.F.slot_str_join PySem.F.type_str_join (fun b e => nomatch e) hQ
    | _ => exact nf q
  | _ => exact nf q
theorem getM_at {ks : List D} (ad : Addr) (sy : (ad == sysModules) = false) (k : Keyed X s.heap ad ks vs) (lk : ks.length = l.length) (rl : Reps X m.M (NF F m) s.heap vs l) (qk : intKeyed ks = true) (I : Inv X F ρ σ m s.heap) (rs : Reps X m.M (NF F m) s.heap us ds) (h : Run C (getM ks l ds fun d => κ (.dat d) σ) R) (K : Kont X C R F ρ m s κ Q) : wpAny (model X.prog X.w) A (PySem.call (.builtin "dict.get") (.ref ad :: us)) Q E s := by
  cases ds with
  | nil => exact h.elim
  | cons i t =>
    refine liftW h fun i w1 h => liftW h fun e w2 h => ?_
    rw [dInt_is w1] at rs
    obtain @⟨_, us, rfl, ⟨t1, rfl⟩, rs⟩ := rs
    rcases k with @⟨is, rfl, k⟩ | @⟨is, rfl, k⟩
    · obtain ⟨g1, g2⟩ := dget_gen key_int (x := i) (by rw [List.length_map] at lk; exact lk) rl
      have fin : ∀ v tk, Rep X m.M (NF F m) s.heap v e → Q (((is.zip vs).lookup i).getD v) { s with toks := tk } := fun v tk rv => K.at I h _ (by
        cases e : dget (is.map D.int) l (.int i) with
        | some d => obtain ⟨v, hv, _, rv⟩ := g1 _ e; rw [hv]; exact rv
        | none => rw [g2 e]; exact rv)
      cases t with
      | nil =>
        cases rs
        cases w2
        exact call_meetsIn PySem.F.slot_dict_get k.typeIs PySem.F.entry_dict_get (PySem.F.args_dict_get_2 _ _) (meets_dict_get (intKind X.prog X.w) ad (intKind_is _ _ i t1) sy) ⟨_, dictOf_map k, fin _ _ rfl⟩
      | cons d' t =>
        cases one_is (show one (d' :: t) = some e from w2)
        obtain @⟨w2, _, rfl, r2, rs⟩ := rs
        cases rs
        exact call_meetsIn PySem.F.slot_dict_get k.typeIs PySem.F.entry_dict_get (PySem.F.args_dict_get_3 _ _ _) (meets_dict_get_default (intKind X.prog X.w) ad (intKind_is _ _ i t1) sy w2) ⟨_, dictOf_map k, fin _ _ r2⟩
    · cases is <;> exact nf qk
theorem capp_at {c : Nat} (I : Inv X F ρ σ m s.heap) (r : Rep X m.M (NF F m) s.heap u (.cell c)) (rs : Reps X m.M (NF F m) s.heap us ds) (h : Run C (metC .append (.cell c) ds σ fun d σ => κ (.dat d) σ) R) (K : Kont X C R F ρ m s κ Q) : wpAny (model X.prog X.w) A (PySem.call (.builtin Mt.append.id) (u :: us)) Q E s := by
  obtain @⟨p, e, rfl⟩ := r
  refine liftW h fun d w1 h => liftW h fun l w2 h => bindW w2 fun y w3 w2 => ?_
  rw [one_is w1] at rs
  obtain @⟨w, _, rfl, rw_, rr⟩ := rs
  cases rr
  have ca := I.at_ _ _ _ e w3
  clear w1 w3
  cases y with
  | lst l' =>
    cases w2
    obtain @⟨vs, pl, z, rl⟩ := ca
    exact append_at pl rl rw_ h.1 fun s' sm sb al z => let st := I.put (c := .lst (l ++ [d])) e sm sb al z; K _ (.dat .none) _ _ _ st.1 st.2 rfl h.2
  | _ => exact nn w2
theorem tget_at {c : Nat} (gk : Gk X G) (hu : A.units + 8 < cLine) (I : Inv X F ρ σ m s.heap) (r : Rep X m.M (NF F m) s.heap u (.cell c)) (rs : Reps X m.M (NF F m) s.heap us ds) (h : Run C (metC .get (.cell c) ds σ fun d σ => κ (.dat d) σ) R) (K : Kont X C R F ρ m s κ Q) : wpAny (model X.prog X.w) A (PySem.call (.builtin Mt.get.id) (u :: us)) Q E s := by
  obtain @⟨p, e, rfl⟩ := r
  refine liftW h fun y w2 h => ?_
  have ca := I.at_ _ _ _ e w2
  clear w2
  cases y with
  | dct ks l =>
    refine onBW h fun q h => ?_
    obtain ⟨t, lk, _, p⟩ := ca
    cases t with
    | emp _ k => subst k; exact nf q
    | key t => exact getM_at _ (not_sys gk I (fl_get e).1) t lk p q I rs h K
  | tab ks ds =>
    refine liftW h fun k w1 h => liftW h fun r w3 h => onBW h fun q h => ?_
    rw [two_is w1] at rs
    obtain @⟨_, _, rfl, rk, @⟨_, _, rfl, re, rr⟩⟩ := rs
    cases rr
    rw [rk_inv w3] at rk
    obtain ⟨b, rfl, ra⟩ := rep_row rk
    obtain @⟨xs, hx, z, t, r1, r2⟩ := ca
    have hd := tab_dict hx t r1
    refine call_meetsIn PySem.F.slot_dict_get hd.typeIs PySem.F.entry_dict_get (PySem.F.args_dict_get_3 _ _ _) (meetsH_dict_get_default (Z.rowKind X.prog X.w) p.1 b (not_sys gk I (fl_get e).1) _) ⟨(show A.units + 1 + 1 < cLine from Nat.lt_of_le_of_lt (Nat.add_le_add_left (by decide : 2 ≤ 8) _) hu), r, xs, ra, hd, ?_⟩
    rw [atKey_no hx ((Bool.not_eq_true' _).mp q)]
    exact K.at I h _ re
  | _ => exact h.elim
theorem join_at {x : Str} (I : Inv X F ρ σ m s.heap) (qr : x.cps.toList.isEmpty = true) (r : Rep X m.M (NF F m) s.heap u (.str x)) (rs : Reps X m.M (NF F m) s.heap us ds) (h : Run C (metC .join (.str x) ds σ fun d σ => κ (.dat d) σ) R) (K : Kont X C R F ρ m s κ Q) : wpAny (model X.prog X.w) A (PySem.call (.builtin Mt.join.id) (u :: us)) Q E s := by
  refine liftW h fun d w1 h => liftW h fun l w2 h => liftW h fun t w3 h5 => ?_
  rw [one_is w1, dLst_is w2] at rs
  obtain @⟨_, _, rfl, @⟨ad, vs, rfl, _, tl, z, p⟩, rr⟩ := rs
  cases rr
  obtain @⟨tx, rfl, _⟩ := r
  have hx : x = ⟨#[]⟩ := congrArg Str.mk (Array.toList_eq_nil_iff.mp (List.isEmpty_iff.mp qr))
  subst hx
  refine PyProof.Rows.join_list tl (by rw [List.toList_toArray]; exact strs_are p w3) (by rw [lenSum_is]; exact chk_le h5.1) fun t' tk => ?_
  rw [glue_is]
  exact K.at I h5.2 _ (rStr _ (by rw [glue_len]; exact chk_le h5.1))
theorem met_at {σ0 : St} (gk : Gk X G) (hu : A.units + 8 < cLine) (I : Inv X F ρ σ m s.heap) (qr : ready mm d σ0 = true) (r : Rep X m.M (NF F m) s.heap u d) (rs : Reps X m.M (NF F m) s.heap us ds) (h : Run C (metC mm d ds σ fun d σ => κ (.dat d) σ) R) (K : Kont X C R F ρ m s κ Q) : wpAny (model X.prog X.w) A (PySem.call (.builtin mm.id) (u :: us)) Q E s := by
  cases d with
  | cell c =>
    cases mm with
    | append => exact capp_at I r rs h K
    | get => exact tget_at gk hu I r rs h K
    | _ => exact h.elim
  | dct ks l =>
    cases mm with
    | get => obtain @⟨ad, vs, rfl, _, sy, k, lk, rl⟩ := r; exact getM_at ad sy k lk rl qr I rs h K
    | _ => exact nf qr
  | str x =>
    cases mm with
    | join => exact join_at I qr r rs h K
    | _ => exact nf qr
  | _ => exact nf qr
end
end Mine
end
noncomputable section
namespace Mine
open PySem PySem.W PyProof.Rows PySem.Calls PySem.SeqAt
section
variable {prog : Program} {w : World} {A : Around} {E : Value → Shared → Prop} {s : Shared}
theorem adjust_run (a b n : Nat) (h : a ≤ b) (hb : b ≤ n) : Builtin.Slice.sliceAdjust (some (a : Int)) (some (b : Int)) 1 (n : Int) = ((a : Int), (b : Int)) := by
  unfold Builtin.Slice.sliceAdjust
  simp only [show ¬ ((1 : Int) < 0) by decide, Int.not_lt.mpr (Int.natCast_nonneg a), Int.not_lt.mpr (Int.natCast_nonneg b), if_false]
  have e1 := Int.ofNat_le.mpr (Nat.le_trans h hb)
  have e2 := Int.ofNat_le.mpr hb
  exact Prod.ext (Int.min_eq_left e1) (Int.min_eq_left e2)
theorem sliceApplied_run {sl : Addr} {a b n : Nat} {t u : Tok} {Q : Int × Int × Nat → Shared → Prop} (hs : s.heap.IsSliceOf sl (.int a t) (.int b u) .none) (ha : a ≤ b) (hb : b ≤ n) (h : Q ((a : Int), 1, b - a) s) :
    wpAny (model prog w) A (Builtin.Slice.sliceApplied (.ref sl) (pure (n : Int))) Q E s := by
  obtain ⟨os, hos, hcs, hds⟩ := hs
  unfold Builtin.Slice.sliceApplied Builtin.Slice.sliceFields
  refine wpAny_bind (wpAny_bind (wpAny_field hos hds (x := .int a t) rfl (wpAny_bind (wpAny_field hos hds (x := .int b u) rfl (wpAny_bind (wpAny_field hos hds (x := .none) rfl (wpAny_pure ?_)))))))
  refine wpAny_bind (slicePart_none ?_)
  show wpAny _ _ (if ((1 : Int) == 0) = true then _ else _) _ _ s
  rw [if_neg (by decide)]
  refine wpAny_bind (slicePart_int (wpAny_bind (slicePart_int (wpAny_bind (wpAny_pure ?_)))))
  show wpAny _ _ (match Builtin.Slice.sliceAdjust (some (a : Int)) (some (b : Int)) 1 (n : Int) with | (lo, hi) => pure (lo, (1 : Int), Builtin.Slice.slicePlaces lo hi 1)) _ _ s
  rw [adjust_run a b n ha hb]
  show wpAny _ _ (pure ((a : Int), (1 : Int), Builtin.Slice.slicePlaces (a : Int) (b : Int) 1)) _ _ s
  rw [places_from a b ha]
  exact wpAny_pure h
theorem pick_part (l : List Value) (a b : Nat) : ((List.range (b - a)).filterMap fun (k : Nat) => l.toArray[((a : Int) + (k : Int) * 1).toNat]?).toArray = ((l.take b).drop a).toArray := by
  have e : (fun (k : Nat) => l.toArray[((a : Int) + (k : Int) * 1).toNat]?) = (fun x => l.toArray[x]?) ∘ fun x => a + x := funext fun k => by
    rw [Int.mul_one]; rfl
  rw [e, ← List.filterMap_map, pick_run l.toArray a (b - a), List.drop_take]
theorem getItem_tuple_run {t sl : Addr} {l : List Value} {a b : Nat} {u u' : Tok} {Q : Value → Shared → Prop} (ht : IsTup s.heap t l.toArray) (hs : s.heap.IsSliceOf sl (.int a u) (.int b u') .none) (ha : a ≤ b) (hb : b ≤ l.length)
    (h0 : a = 0 → b = l.length → Q (.ref t) s)
    (h : Q (.ref s.heap.objs.size) { s with heap := s.heap.push { cls := .type "tuple", data := .seq ((l.take b).drop a).toArray } })
    (hsz : l.length ≤ sizeLine) : wpAny (model prog w) A (getItem (.ref t) (.ref sl)) Q E s := by
  have hdrop : sizeOk (.seq ((l.take b).drop a).toArray) := by
    show ((l.take b).drop a).length ≤ sizeLine
    rw [List.length_drop, List.length_take, Nat.min_eq_left hb]
    exact Nat.le_trans (Nat.sub_le _ _) (Nat.le_trans hb hsz)
  have hTs : s.TypeIs (.ref sl) "slice" := let ⟨os, hos, hcs, _⟩ := hs; ⟨os, hos, hcs⟩
  unfold getItem
  refine wpAny_holding (wpAny_bind (wpAny_sequenceKey ht.typeIs (by decide) (wpAny_bind (wpAny_callSpecial?_slot (name := Str.ofString "__getitem__") ht.typeIs slot_tuple_getitem
    (wpAny_call_entry slot_tuple_getitem ht.typeIs entry_tuple_getitem ?_ (args_tuple_getitem _ _))))))
  show wpAny _ _ (Builtin.Tuple.tupleItemsOf (.ref t) >>= _) _ _ s
  refine wpAny_bind (tupleItemsOf_ ht (wpAny_bind (wpAny_typeOf hTs ?_)))
  rw [if_pos (by decide)]
  refine wpAny_bind (sliceApplied_run (n := l.toArray.size) hs ha hb ?_)
  show wpAny _ _ (if ((a : Int) == 0 && (1 : Int) == 1 && (b - a) == l.toArray.size) = true then _ else _) _ _ s
  by_cases hw : a = 0 ∧ b = l.length
  · obtain ⟨rfl, rfl⟩ := hw
    rw [if_pos (by simp)]
    refine wpAny_bind (m := Builtin.Tuple.tupleIsExact _) ?_
    unfold Builtin.Tuple.tupleIsExact
    refine wpAny_bind (wpAny_typeOf ht.typeIs (wpAny_pure ?_))
    rw [if_pos (by decide)]
    first
      | exact wpAny_bind (wpAny_rule (wpAny_pure ⟨_, rfl, wpAny_pure (h0 rfl rfl)⟩))
      | exact wpAny_bind (wpAny_rule (wpAny_bind (wpAny_pure ⟨_, rfl, wpAny_pure (h0 rfl rfl)⟩)))
      | exact wpAny_bind (wpAny_rule (wpAny_bind (wpAny_pure (wpAny_pure ⟨_, rfl, wpAny_pure (h0 rfl rfl)⟩))))
  · have hno : ¬ (((a : Int) == 0 && (1 : Int) == 1 && (b - a) == l.toArray.size) = true) := fun q => by
      have q := Bool.and_eq_true_iff.mp q
      have z : a = 0 := Int.ofNat_eq_zero.mp (beq_iff_eq.mp (Bool.and_eq_true_iff.mp q.1).1)
      subst z
      exact hw ⟨rfl, beq_iff_eq.mp q.2⟩
    rw [if_neg hno, pick_part l a b]
    first
      | exact wpAny_bind (m := Builtin.Tuple.tupleExact _) (wpAny_newObj_type (wpAny_pure ⟨_, rfl, wpAny_pure h⟩) hdrop)
      | exact wpAny_bind (m := Builtin.Tuple.tupleExact _) (wpAny_newObj_type (wpAny_bind (wpAny_pure (wpAny_pure ⟨_, rfl, wpAny_pure h⟩))) hdrop)
      | exact wpAny_bind (wpAny_bind (m := Builtin.Tuple.tupleExact _) (wpAny_newObj_type (wpAny_pure (wpAny_pure ⟨_, rfl, wpAny_pure h⟩)) hdrop))
      | exact wpAny_bind (wpAny_bind (m := Builtin.Tuple.tupleExact _) (wpAny_newObj_type (wpAny_pure ⟨_, rfl, wpAny_pure h⟩) hdrop))
end
end Mine
end
noncomputable section
namespace Mine
open PySem PySem.W PyProof.Rows PySem.Calls PySem.SeqAt
section
variable {C : CRel} {R : Out} {X : Wd} {G : Cfg} {s s' : Shared} {A : Around} {E : Value → Shared → Prop} {Q : Value → Shared → Prop} {u w ov : Value} {v : V} {a b d r : D} {F : Fm} {m : Ms} {ρ : Rho} {σ σ' : St} {κ : V → St → Tr} {us vs : List Value} {l ds : List D} {x : Str} {lo hi : Option D} {ns : List Str} {cl : Addr}
noncomputable def Asks (X : Wd) (A : Around) (Q E : Value → Shared → Prop) (o l u : Value) (s : Shared) : Prop := ∃ T id, s.TypeIs o T ∧ typeLookup (.type T) "__getitem__" = pure (some (.builtin id)) ∧
  wpAny (model X.prog X.w) A (getItem o (.ref s.heap.objs.size)) Q E { s with heap := s.heap.push { cls := .type "slice", data := .fields #[l, u, .none] } }
theorem slice_rule {lower upper : Option Expr} {value : Expr} {p pos : Pos} {env : Env}
    (h : wpAny (model X.prog X.w) A (eval value env) (fun o s₁ => wpAny (model X.prog X.w) A (evalPart lower env) (fun l s₂ => wpAny (model X.prog X.w) A (evalPart upper env) (fun u s₃ => Asks X A Q E o l u s₃) E s₂) E s₁) E s) :
    wpAny (model X.prog X.w) A (eval (.Subscript value (.Slice lower upper none p) pos) env) Q E s := by
  refine Subscript_ (wpAny_mono h (fun o s₁ h₁ => wpAny_Slice (wpAny_mono h₁ (fun l s₂ h₂ => wpAny_mono h₂ (fun u s₃ h₃ => ?_) fun _ _ e => e) fun _ _ e => e)) fun _ _ e => e)
  obtain ⟨T, id, hT, hl, hg⟩ := h₃
  rw [evalPart_none]
  refine wpAny_pure (tail_any (T := T) (id := id) (ops := [.ref s₃.heap.objs.size, o]) ?_ hl hg rfl)
  cases o with
  | ref a =>
    obtain ⟨ob, e, c⟩ := hT
    exact ⟨ob, Heap.get?_push_of_some _ e, c⟩
  | _ => exact hT
noncomputable def RepO (X : Wd) (M : Lg) (N : Addr → Prop) (h : Heap) (u : Value) : Option D → Prop
  | none => u = .none
  | some a => Rep X M N h u a
theorem pick_from' (a : Nat) : slicePick vs.toArray (some (a : Int)) none none = (vs.drop a).toArray := by
  have e : sliceBounds (some (a : Int)) none none vs.toArray.size = (((min a vs.toArray.size : Nat) : Int), ((vs.toArray.size : Nat) : Int), 1) := by
    simp only [sliceBounds, Option.getD_none, show (1 : Int) > 0 by decide, if_true, if_neg (Int.not_lt.mpr (Int.natCast_nonneg a))]
    exact congrArg (·, _) (by omega)
  rw [kmk_pick_nat _ e]
  show ((vs.drop (min a vs.toArray.size)).take (vs.toArray.size - min a vs.toArray.size)).toArray = _
  rw [List.size_toArray, kmk_drop_min, List.take_of_length_le (by rw [List.length_drop]; omega)]
theorem pick_to' (b : Nat) : slicePick vs.toArray none (some (b : Int)) none = (vs.take b).toArray := by
  have e : sliceBounds none (some (b : Int)) none vs.toArray.size = (((0 : Nat) : Int), ((min b vs.toArray.size : Nat) : Int), 1) := by
    simp only [sliceBounds, Option.getD_none, show (1 : Int) > 0 by decide, if_true, if_neg (Int.not_lt.mpr (Int.natCast_nonneg b))]
    exact congrArg (fun x : Int => ((0 : Int), x, (1 : Int))) (by omega)
  rw [kmk_pick_nat _ e]
  show ((vs.drop 0).take (min b vs.toArray.size - 0)).toArray = _
  rw [List.drop_zero, Nat.sub_zero, List.size_toArray, kmk_take_min]
theorem sub_new (I : Inv X F ρ σ m s.heap) {o : Obj} (z : ds.length ≤ sizeLine) (rs : Reps X m.M (NF F m) s.heap vs ds) (hQ : ∀ x s', Step F m m s s' → Inv X F ρ σ m s'.heap → Rep X m.M (NF F m) s'.heap x (.lst ds) → Q x s') :
    Q (.ref (s.heap.push o).objs.size) { s with heap := (s.heap.push o).push { cls := .type "list", data := .seq vs.toArray } } := by
  obtain ⟨st, I2⟩ := I.ext (s' := { s with heap := s.heap.push o }) ⟨_, _, rfl⟩ (push_ext _ _)
  obtain ⟨st', I3⟩ := I2.ext (s' := { s with heap := (s.heap.push o).push { cls := .type "list", data := .seq vs.toArray } }) ⟨_, _, rfl⟩ (push_ext _ _)
  exact hQ _ _ (st.trans st') I3 (lst_push I2.fresh z ((rs.step st).step st'))
theorem sub_at (I : Inv X F ρ σ m s.heap) (q : sliceD d lo hi = some r) (r1 : Rep X m.M (NF F m) s.heap ov d) (r2 : RepO X m.M (NF F m) s.heap u lo) (r3 : RepO X m.M (NF F m) s.heap w hi)
    (hQ : ∀ x s', Step F m m s s' → Inv X F ρ σ m s'.heap → Rep X m.M (NF F m) s'.heap x r → Q x s') : Asks X A Q E ov u w s := by
  cases d with
  | tup ds =>
    refine bindW q fun a w1 q => bindW q fun b w2 q => bindW q fun i w3 q => bindW q fun j w4 q => onOW q fun c q5 => ?_
    subst w1 w2
    rw [dNat_is w3] at r2
    rw [dNat_is w4] at r3
    obtain ⟨ta, rfl⟩ := r2
    obtain ⟨tb, rfl⟩ := r3
    cases q5
    have c := Bool.and_eq_true_iff.mp c
    have c1 := Nat.le_of_ble_eq_true c.1
    have c2 := Nat.le_of_ble_eq_true c.2
    obtain @⟨ad, vs, rfl, na, t, z, p⟩ := r1
    obtain ⟨st, I2⟩ := I.ext (s' := { s with heap := s.heap.push { cls := .type "slice", data := .fields #[.int (i : Int) ta, .int (j : Int) tb, .none] } }) ⟨_, _, rfl⟩ (push_ext _ _)
    refine ⟨"tuple", _, t.tup.typeIs, slot_tuple_getitem.lookup, getItem_tuple_run (l := vs) (show IsTup _ ad _ from (let ⟨n, e⟩ := t; ⟨n, push_ext _ _ _ _ e⟩ : PTup _ ad vs).tup) (Heap.IsSliceOf.new ..) c1 (p.length ▸ c2) (fun e1 e2 => ?_) ?_ (p.length ▸ z)⟩
    · subst e1
      refine hQ _ _ st I2 ?_
      rw [List.drop_zero, List.take_of_length_le (by rw [e2, p.length]; exact Nat.le_refl _)]
      exact Rep.step (d := .tup ds) (RSeq.mk rfl na t z p) st
    · obtain ⟨st', I3⟩ := I2.ext (s' := { s with heap := (s.heap.push { cls := .type "slice", data := .fields #[.int (i : Int) ta, .int (j : Int) tb, .none] }).push { cls := .type "tuple", data := .seq ((vs.take j).drop i).toArray } }) ⟨_, _, rfl⟩ (push_ext _ _)
      exact hQ _ _ (st.trans st') I3 (tup_push I2.fresh (by rw [List.length_drop, List.length_take]; exact Nat.le_trans (Nat.sub_le _ _) (Nat.le_trans (Nat.min_le_right _ _) z)) (((p.take j).drop i |>.step st).step st'))
  | lst ds =>
    obtain @⟨ad, vs, rfl, na, t, z, p⟩ := r1
    have t' : ∀ o : Obj, (s.heap.push o).IsList ad vs.toArray := fun o => let ⟨o', e, r⟩ := t; ⟨o', push_ext _ _ _ _ e, r⟩
    have zv : vs.length ≤ sizeLine := p.length ▸ z
    cases lo with
    | some a => cases hi with
      | some b => exact nn q
      | none =>
        refine bindW q fun i w3 q5 => ?_
        rw [dNat_is w3] at r2
        obtain ⟨ta, rfl⟩ := r2
        cases q5
        cases r3
        refine ⟨"list", _, t.typeIs, slot_list_getitem.lookup, wpAny_getItem_list_slice (lo := some (i : Int)) (hi := none) (st := none) (hl := t' _) (Heap.IsSliceOf.new ..) (.int _ _) .none .none (by simp) ?_ zv⟩
        rw [pick_from']
        exact sub_new I (by rw [List.length_drop]; exact Nat.le_trans (Nat.sub_le _ _) z) (p.drop i) hQ
    | none => cases hi with
      | none => exact nn q
      | some b =>
        refine bindW q fun i w3 q5 => ?_
        rw [dNat_is w3] at r3
        obtain ⟨ta, rfl⟩ := r3
        cases q5
        cases r2
        refine ⟨"list", _, t.typeIs, slot_list_getitem.lookup, wpAny_getItem_list_slice (lo := none) (hi := some (i : Int)) (st := none) (hl := t' _) (Heap.IsSliceOf.new ..) .none (.int _ _) .none (by simp) ?_ zv⟩
        rw [pick_to']
        exact sub_new I (by rw [List.length_take]; exact Nat.le_trans (Nat.min_le_right _ _) z) (p.take i) hQ
  | _ => exact nn q
theorem obj_at (I : Inv X F ρ σ m s.heap) (r : Rep X m.M (NF F m) s.heap u d) (q : objOf d σ = some (cl, ns, ds)) : ∃ p dx vs, u = .ref p ∧ Own s.heap p dx cl ns vs ∧ ns.length = ds.length ∧ Reps X m.M (NF F m) s.heap vs ds := by
  cases d with
  | obj => cases q; obtain @⟨x, dx, vs, e, _, _, o, z, p⟩ := r; exact ⟨x, dx, vs, e, o, z, p⟩
  | cell c =>
    obtain @⟨p, e, rfl⟩ := r
    refine bindW q fun y w q => ?_
    have ca := I.at_ _ _ _ e w
    cases y with
    | obj => cases q; obtain @⟨vs, _, o, z, rs⟩ := ca; exact ⟨_, _, vs, rfl, o, z, rs⟩
    | _ => exact nn q
  | _ => exact nn q
theorem fget_at (z : ns.length = ds.length) (rs : Reps X m.M (NF F m) s.heap vs ds) : (∀ d, fget ns ds x = some d → ∃ v, (ns.zip vs).lookup x = some v ∧ v ∈ vs ∧ Rep X m.M (NF F m) s.heap v d) ∧ (fget ns ds x = none → (ns.zip vs).lookup x = none) := by
  rw [fget_eq]; exact dget_gen key_str z rs
theorem attr_at (gk : Gk X G) (I : Inv X F ρ σ m s.heap) (r1 : Rep X m.M (NF F m) s.heap u d) (q : attrD G d x σ = some r) {ex : Bool} (hQ : ∀ v tk, Rep X m.M (NF F m) s.heap v r → Q v { s with toks := tk }) : wpAny (model X.prog X.w) A (getAttr u x ex) Q E s := by
  refine bindW q fun o w1 q => bindW q fun f w2 q => ?_
  obtain ⟨p, dx, vs, rfl, @⟨ox, es, n, _, In, _, hl, hh⟩, z, rs⟩ := obj_at (cl := o.1) (ns := o.2.1) (ds := o.2.2) I r1 w1
  cases f with
  | some => exact nn q
  | none =>
    obtain ⟨v, hv, mv, rv⟩ := (fget_at z rs).1 r q
    exact gk.getOk _ x w2 A s p ox es n v ex _ _ I.base In (by rw [hl, hv]) (hh v mv) (hQ v _ rv)
theorem handed_of {M : Lg} {N : Addr → Prop} {h : Heap} (r : Rep X M N h u d) (q : okAttr d = true) : handedIn u = true := by
  cases d with
  | any => exact nf q
  | bi => exact nf q
  | none => rw [show u = _ from r]; rfl
  | bool => rw [show u = _ from r]; rfl
  | int => obtain ⟨_, rfl⟩ := r; rfl
  | cell => obtain ⟨_, rfl⟩ := r; rfl
  | _ => obtain ⟨rfl⟩ := r; rfl
theorem setAttr_at (gk : Gk X G) (I : Inv X F ρ σ m s.heap) {v : D} (ru : Rep X m.M (NF F m) s.heap u v) (rd : Rep X m.M (NF F m) s.heap w d) (q : setAttr G v x d σ = some σ') {Q : Unit → Shared → Prop} (hQ : ∀ s', Step F m m s s' → Inv X F ρ σ' m s'.heap → Q () s') : wpAny (model X.prog X.w) A (PySem.setAttr u x w) Q E s := by
  cases v with
  | cell c =>
    obtain @⟨p, e, rfl⟩ := ru
    refine bindW q fun y w1 q => ?_
    have ca := I.at_ _ _ _ e w1
    clear w1
    cases y with
    | obj cl ns ds =>
      refine onOW q fun c q => ?_
      cases q
      obtain ⟨c, c4⟩ := Bool.and_eq_true_iff.mp c
      obtain ⟨c, c3⟩ := Bool.and_eq_true_iff.mp c
      obtain ⟨c1, c2⟩ := Bool.and_eq_true_iff.mp c
      obtain ⟨K, KX, hK, _⟩ := gk.own
      obtain ⟨k1, k2, k3, k4⟩ := hK cl x c1
      obtain @⟨vs, hne, @⟨ox, es, n, hd, In, hlen, hl, hh⟩, z, rs⟩ := ca
      have lk := (fget_at (x := x) z rs).2 (Option.isNone_iff_eq_none.mp c3)
      have g : getL x es = some none := by rw [hl, lk]
      have lz : ns.length = vs.length := z.trans rs.length.symm
      refine set_new (KX.keeps I.base) In hd k1 k2 k3 k4 g (by rw [hlen, rs.length]; exact Nat.lt_trans (Nat.blt_eq.mp c4) (by decide)) fun h' hsh t n' tk sb hg' => ?_
      have gx : h'.get? p.1 = some ox := by rw [sb.2 _ hne]; exact In.at_
      obtain ⟨_, a2, a3, _⟩ := In
      have st := I.set (s' := { s with heap := h', toks := tk }) (c := .obj cl (ns ++ [x]) (ds ++ [d])) e ⟨_, _, rfl⟩ (fun b o _ n2 e => by rw [sb.2 b n2]; exact e) ⟨_, gx⟩ ⟨_, hg'⟩ fun st =>
        .mk (vs := vs ++ [w]) hne ⟨hd, ⟨gx, a2, a3, by rw [hd]; exact hg'⟩, by rw [List.length_append, List.length_append, hlen]; rfl, fun y => by
          rw [getL_snoc g, List.zip_append lz, List.lookup_append]
          by_cases q : y = x
          · subst q; rw [if_pos rfl, lk]; exact (congrArg some List.lookup_cons_self).symm
          · rw [if_neg q, hl, List.zip_cons_cons, List.lookup_cons, beq_eq_false_iff_ne.mpr q]; exact (congrArg some Option.or_none).symm, fun v hv => (List.mem_append.mp hv).elim (hh v) fun hv => List.mem_singleton.mp hv ▸ handed_of rd c2⟩
          (by rw [List.length_append, List.length_append, z]; rfl) ((rs.append (Reps.one rd)).step st)
      exact hQ _ st.1 st.2
    | _ => exact nn q
  | _ => exact nn q
end
end Mine
end
noncomputable section
namespace Mine
open PySem PySem.W PyProof.Rows PySem.Calls PySem.SeqAt
abbrev NoE : Value → Shared → Prop := fun _ _ => False
abbrev Ev (X : Wd) (F : Fm) (A : Around) (e : Expr) (Q : Value → Shared → Prop) (s : Shared) : Prop := wpAny (model X.prog X.w) A (eval e F.env) Q NoE s
noncomputable def SE (X : Wd) (G : Cfg) (k : Nat) (A : Around) (sc : Scope) (F : Fm) (n : Nat) : Prop := ∀ {e : Expr} {ρ : Rho} {σ : St} {κ : V → St → Tr} {R : Out} {m : Ms} {s : Shared} {Q : Value → Shared → Prop},
  Inv X F ρ σ m s.heap → Run (CallOk X k) (cE G n sc e ρ σ κ) R → Kont X (CallOk X k) R F ρ m s κ Q → Ev X F A e Q s
noncomputable def KonT (X : Wd) (C : CRel) (R : Out) (F : Fm) (ρ : Rho) (m : Ms) (s : Shared) (κ : Bool → St → Tr) (Q : Bool → Shared → Prop) : Prop :=
  ∀ b σ' m' s', Step F m m' s s' → Inv X F ρ σ' m' s'.heap → Run C (κ b σ') R → Q b s'
noncomputable def SB (X : Wd) (G : Cfg) (k : Nat) (A : Around) (sc : Scope) (F : Fm) (n : Nat) : Prop := ∀ {e : Expr} {ρ : Rho} {σ : St} {κ : Bool → St → Tr} {R : Out} {m : Ms} {s : Shared} {Q : Bool → Shared → Prop},
  Inv X F ρ σ m s.heap → Run (CallOk X k) (cT G n sc e ρ σ κ) R → KonT X (CallOk X k) R F ρ m s κ Q → wpAny (model X.prog X.w) A (isTrue e F.env (eval e F.env)) Q NoE s
section
variable {X : Wd} {G : Cfg} {k n : Nat} {A : Around} {sc : Scope} {F : Fm} {C : CRel} {R : Out} {ρ : Rho} {σ σ' : St} {m m' : Ms} {s s' : Shared} {Q : Value → Shared → Prop} {u : Value} {d : D} {κ : V → St → Tr} {e l r : Expr} {es : List Expr} {p : Pos}
theorem Kont.after (K : Kont X C R F ρ m s κ Q) (st : Step F m m' s s') : Kont X C R F ρ m' s' κ Q := fun u v σ' m'' s'' st' => K u v σ' m'' s'' (st.trans st')
theorem KonT.after {κ : Bool → St → Tr} {Q : Bool → Shared → Prop} (K : KonT X C R F ρ m s κ Q) (st : Step F m m' s s') : KonT X C R F ρ m' s' κ Q := fun b σ' m'' s'' st' => K b σ' m'' s'' (st.trans st')
theorem KD {k : D → St → Tr} (g : ∀ u d σ' m' s', Step F m m' s s' → Inv X F ρ σ' m' s'.heap → Rep X m'.M (NF F m') s'.heap u d → Run C (k d σ') R → Q u s') : Kont X C R F ρ m s (onD k) Q := fun u v σ' m' s' st I r h => by
  cases v with
  | dat d => exact g u d σ' m' s' st I r h
  | loc => exact h.elim
theorem AOk.u8 (ao : AOk k A) : A.units + 8 < cLine := Nat.lt_of_le_of_lt (Nat.le_trans (Nat.add_le_add_left (by decide : 8 ≤ 40) _) (by rw [Nat.add_assoc]; exact Nat.add_le_add_left (Nat.le_add_left _ _) _)) ao.units
theorem e_const {c : Const} {j : Nat} (I : Inv X F ρ σ m s.heap) (h : Run C (cE G (n + 1) sc (.Constant c j p) ρ σ κ) R) (K : Kont X C R F ρ m s κ Q) : Ev X F A (.Constant c j p) Q s := by
  unfold Ev
  rw [eval_Constant]
  cases c with
  | none => exact wpAny_pure (K.at I (d := .none) h s.toks rfl)
  | bool b => exact wpAny_pure (K.at I (d := .bool b) h s.toks rfl)
  | int i => exact wpAny_mkInt (K.at I (d := .int i) h _ (rInt _ _))
  | str x => exact onBW h fun q h _ _ _ => K.at I (d := .str x) h _ (rStr _ (chk_le q))
  | _ => exact h.elim
theorem glob_at (gk : Gk X G) {x : Str} (e : G.glob x = some d) (I : Inv X F ρ σ m s.heap) (ok : FOk F sc) (q : kindIn sc.names x = some .globalImplicit) (hQ : ∀ v, Rep X m.M (NF F m) s.heap v d → Q v s) : Ev X F A (.Name x p) Q s := by
  obtain ⟨hd, u, ⟨mg, mb, hg, hb, hv⟩, hr⟩ := gk.globOk x d e
  have hg' := hg.keeps I.base
  have hb' := hb.keeps I.base
  rw [← ok.glob] at hg'
  rw [← ok.bui] at hb'
  have r := hQ _ (hr m.M (NF F m) s.heap I.base I.off)
  rcases hv with hv | ⟨h0, hv⟩
  · exact Name_function_global ok.kind (ok.glo x q) (loadGlobal_global hg' hv r) hd
  · exact Name_function_global ok.kind (ok.glo x q) (loadGlobal_builtin hg' h0 hb' hv r) hd
theorem e_name (gk : Gk X G) (ok : FOk F sc) {x : Str} (I : Inv X F ρ σ m s.heap) (h : Run C (cE G (n + 1) sc (.Name x p) ρ σ κ) R) (K : Kont X C R F ρ m s κ Q) : Ev X F A (.Name x p) Q s := by
  have h : Run C (varC G ρ σ x κ (kindIn sc.names x)) R := h
  have cel : ∀ {k}, kindIn sc.names x = some k → F.env.kindOf x = some .cell ∨ F.env.kindOf x = some .free → Run C (lift (rget ρ x) fun v => κ v σ) R → Ev X F A (.Name x p) Q s := fun {k} q kx h => by
    obtain ⟨hd, hc⟩ := ok.nd x k q
    refine liftW h fun v e h => ?_
    obtain ⟨c, u, h1, h2, _, hr⟩ := I.cel x _ e kx
    have r : Q u s := K u v σ m s I.same I hr h
    rcases kx with kx | kx
    · exact wpAny_Name (wpAny_loadName_cell ok.kind kx h1 h2 r) hd
    · exact wpAny_Name (wpAny_loadName_free ok.kind kx h1 h2 r hc) hd
  cases q : kindIn sc.names x with
  | none => rw [q] at h; exact h.elim
  | some kd =>
    rw [q] at h
    cases kd with
    | «local» =>
      refine liftW h fun v e h => ?_
      obtain ⟨f, hn, hm⟩ := I.loc
      obtain ⟨u, hu, hr⟩ := hm x _ e (ok.loc x q)
      exact wpAny_Name (wpAny_loadName_local ok.kind (ok.loc x q) hn hu (K u v σ m s I.same I hr h)) (ok.nd x _ q).1
    | cell => exact cel q (ok.cel x q) h
    | free => exact cel q (ok.fre x q) h
    | globalImplicit => exact liftW h fun d e h => glob_at gk e I ok q fun v r => K.at I h s.toks r
    | _ => exact h.elim
theorem star_plain {env : Env} (h : okE e = true) : starEach (e :: es) env = (false, eval e env) :: starEach es env := by
  cases e <;> first | rfl | exact nf h
theorem okEs_cons (h : okEs (e :: es) = true) : okE e = true ∧ okEs es = true := by
  unfold okEs at h
  cases q : okE e with
  | true => rw [q] at h; exact ⟨rfl, h⟩
  | false => rw [q] at h; exact nf h
theorem args_plain (pos : Pos) (env : Env) : ∀ {es : List Expr}, okEs es = true → (backTo pos (starEach es env)).any (·.1) = false ∧ (backTo pos (starEach es env)).all (fun x => !x.1) = true
  | [], _ => ⟨rfl, rfl⟩
  | e :: es, h => by
    obtain ⟨h1, h2⟩ := okEs_cons h
    rw [star_plain h1]
    exact args_plain pos env h2
theorem e_args (S : SE X G k A sc F n) (pos : Pos) : ∀ {es : List Expr} {σ : St} {m : Ms} {s : Shared} {κ : List D → St → Tr} {Q : List Value → Shared → Prop}, okEs es = true → Inv X F ρ σ m s.heap → Run (CallOk X k) (mapC (fun e σ k => cE G n sc e ρ σ (onD k)) es σ κ) R →
    (∀ us ds σ' m' s', Step F m m' s s' → Inv X F ρ σ' m' s'.heap → Reps X m'.M (NF F m') s'.heap us ds → us.length = es.length → Run (CallOk X k) (κ ds σ') R → Q us s') → wpAny (model X.prog X.w) A (spliced (backTo pos (starEach es F.env))) Q NoE s
  | [], _, _, _, _, _, _, I, h, K => spliced_nil (K [] [] _ _ _ I.same I rfl rfl h)
  | e :: es, _, _, _, _, _, oe, I, h, K => by
    obtain ⟨h1, h2⟩ := okEs_cons oe
    rw [star_plain h1]
    exact spliced_cons (S I h (KD fun u d σ₁ m₁ s₁ st I₁ r h => e_args S pos h2 I₁ h fun us ds σ₂ m₂ s₂ st₂ I₂ rs l h => K _ _ _ _ _ (st.trans st₂) I₂ (Reps.cons (r.step st₂) rs) (congrArg Nat.succ l) h))
theorem e_eargs (S : SE X G k A sc F n) {f : Value} (pos : Pos) {κ : List D → St → Tr} {Q : Args → Shared → Prop} (oe : okEs es = true) (I : Inv X F ρ σ m s.heap) (h : Run (CallOk X k) (mapC (fun e σ k => cE G n sc e ρ σ (onD k)) es σ κ) R)
    (K : ∀ us ds σ' m' s', Step F m m' s s' → Inv X F ρ σ' m' s'.heap → Reps X m'.M (NF F m') s'.heap us ds → Run (CallOk X k) (κ ds σ') R → Q ⟨us, []⟩ s') : wpAny (model X.prog X.w) A (evalArgs f true (backTo pos (starEach es F.env)) []) Q NoE s := by
  cases es with
  | nil => exact PyProof.Rows.evalArgs_none (K [] [] _ _ _ I.same I rfl h)
  | cons e es =>
    have key := fun {Q'} => e_args (Q := Q') S pos oe I h
    rw [star_plain (okEs_cons oe).1] at key ⊢
    exact evalArgs_plain (key fun us ds σ' m' s' st I r _ h => K us ds σ' m' s' st I r h)
theorem e_tuple (S : SE X G k A sc F n) {j : Nat} (I : Inv X F ρ σ m s.heap) (h : Run (CallOk X k) (cE G (n + 1) sc (.Tuple es j p) ρ σ κ) R) (K : Kont X (CallOk X k) R F ρ m s κ Q) : Ev X F A (.Tuple es j p) Q s := by
  refine onBW h fun q h => ?_
  obtain ⟨q1, q2⟩ := Bool.and_eq_true_iff.mp q
  refine wpAny_Tuple_spliced (e_args S p q2 I h fun us ds σ' m' s' st I rs l h => ?_)
  have z : us.length ≤ sizeLine := l ▸ chk_le q1
  exact ⟨z, (K.after st).ext I h ⟨_, _, rfl⟩ (push_ext _ _) fun st => tup_push I.fresh (rs.length ▸ z) (rs.step st)⟩
theorem e_list (S : SE X G k A sc F n) (I : Inv X F ρ σ m s.heap) (h : Run (CallOk X k) (cE G (n + 1) sc (.List es p) ρ σ κ) R) (K : Kont X (CallOk X k) R F ρ m s κ Q) : Ev X F A (.List es p) Q s := by
  have h : Run (CallOk X k) (listC G.zm (fun e σ k => cE G n sc e ρ σ k) es σ κ) R := h
  cases w : G.zm with
  | true =>
    rw [w] at h
    refine onBW h fun q h => ?_
    obtain ⟨q1, q2⟩ := Bool.and_eq_true_iff.mp q
    refine wpAny_List_spliced (e_args S p q2 I h fun us ds σ' m' s' st I rs l h => ?_)
    have z : us.length ≤ sizeLine := l ▸ chk_le q1
    have g : (s'.heap.push { cls := .type "list", data := .seq us.toArray }).get? s'.heap.objs.size = some { cls := .type "list", data := .seq us.toArray } := Heap.get?_push_size _ rfl
    obtain ⟨st', I'⟩ := I.add (s' := { s' with heap := s'.heap.push { cls := .type "list", data := .seq us.toArray } }) (p := (s'.heap.objs.size, s'.heap.objs.size)) (c := .lst ds) ⟨_, _, rfl⟩ (push_ext _ _) (fresh_none _) (fresh_none _) ⟨_, g⟩ ⟨_, g⟩ fun st => ⟨⟨_, g⟩, rs.length ▸ z, rs.step st⟩
    exact ⟨z, K _ (.dat (.cell _)) _ _ _ (st.trans st') I' (RCell.mk (by rw [← I.len]; exact List.getElem?_concat_length) rfl) h⟩
  | false =>
    rw [w] at h
    cases es with
    | nil =>
      have g : (s.heap.push { cls := .type "list", data := .seq #[] }).get? s.heap.objs.size = some { cls := .type "list", data := .seq #[] } := Heap.get?_push_size _ rfl
      obtain ⟨st', I'⟩ := I.addL (s' := { s with heap := s.heap.push { cls := .type "list", data := .seq #[] } }) (a := s.heap.objs.size) (ds := []) ⟨_, _, rfl⟩ (push_ext _ _) (fresh_none _) ⟨_, g⟩ fun st => .mk (vs := []) ⟨_, g⟩ (Nat.zero_le _) rfl
      exact wpAny_List_spliced (spliced_nil ⟨Nat.zero_le _, K _ (.loc _) _ _ _ st' I' (Exists.intro _ ⟨by rw [← I.llen]; exact List.getElem?_concat_length, rfl⟩) h⟩)
    | cons e₀ es =>
      refine onBW h fun q h => ?_
      obtain ⟨q1, q2⟩ := Bool.and_eq_true_iff.mp q
      refine wpAny_List_spliced (e_args S p q2 I h fun us ds σ' m' s' st I rs l h => ?_)
      have z : us.length ≤ sizeLine := l ▸ chk_le q1
      exact ⟨z, (K.after st).ext I h ⟨_, _, rfl⟩ (push_ext _ _) fun st => lst_push I.fresh (rs.length ▸ z) (rs.step st)⟩
theorem e_binop (S : SE X G k A sc F n) {op : Operator} (I : Inv X F ρ σ m s.heap) (h : Run (CallOk X k) (cE G (n + 1) sc (.BinOp l op r p) ρ σ κ) R) (K : Kont X (CallOk X k) R F ρ m s κ Q) : Ev X F A (.BinOp l op r p) Q s :=
  wpAny_BinOp (S I h (KD fun _ _ _ _ _ st₁ I₁ r₁ h => S I₁ h (KD fun _ _ _ _ _ st₂ I₂ r₂ h => binC_at h (r₁.step st₂) r₂ fun _ _ _ r h => (K.after (st₁.trans st₂)).at I₂ h _ r)))
theorem no_mark {op : CmpOp} (h : okE e = true) : behindInMarks op e = false := by
  cases e <;> first | rfl | exact nf h
theorem e_cmp (gk : Gk X G) (S : SE X G k A sc F n) (ao : AOk k A) {op : CmpOp} {κ : Bool → St → Tr} (I : Inv X F ρ σ m s.heap) (h : Run (CallOk X k) (cE G n sc l ρ σ (onD fun a σ => cE G n sc r ρ σ (onD fun b σ => cmpC G.zm (cmpS op a b σ) fun c => κ c σ))) R)
    (K : KonT X (CallOk X k) R F ρ m s κ fun b s => Q (.bool b) s) : Ev X F A l (fun a s₁ => Ev X F A r (fun b s₂ => wpAny (model X.prog X.w) A (compareOp op a b) Q NoE s₂) s₁) s :=
  S I h (KD fun _ _ _ _ _ st₁ I₁ r₁ h => S I₁ h (KD fun _ _ _ _ _ st₂ I₂ r₂ h => cmpW h fun c q h => cmpS_at gk.sysIn ao.u8 I₂ (r₁.step st₂) r₂ q fun tk => K c _ _ _ ((st₁.trans st₂).trans (I₂.toks tk)) I₂ h))
theorem e_compare (gk : Gk X G) (S : SE X G k A sc F n) (ao : AOk k A) {ops : List CmpOp} {rs : List Expr} (I : Inv X F ρ σ m s.heap) (h : Run (CallOk X k) (cE G (n + 1) sc (.Compare l ops rs p) ρ σ κ) R) (K : Kont X (CallOk X k) R F ρ m s κ Q) : Ev X F A (.Compare l ops rs p) Q s :=
  liftW h fun op w1 h => liftW h fun r w2 h => onBW h fun q h => by
    rw [one_is w1, one_is w2]
    exact wpAny_Compare1 (hm := no_mark q) (e_cmp gk S ao (κ := fun c σ => κ (.dat (.bool c)) σ) I h fun b σ' m' s' st I h => K _ (.dat (.bool b)) _ _ _ st I rfl h)
theorem t_compare (gk : Gk X G) (S : SE X G k A sc F n) (ao : AOk k A) {ops : List CmpOp} {rs : List Expr} {κ : Bool → St → Tr} {Q : Bool → Shared → Prop} (I : Inv X F ρ σ m s.heap) (h : Run (CallOk X k) (cT G (n + 1) sc (.Compare l ops rs p) ρ σ κ) R) (K : KonT X (CallOk X k) R F ρ m s κ Q) : wpAny (model X.prog X.w) A (isTrue (.Compare l ops rs p) F.env (eval (.Compare l ops rs p) F.env)) Q NoE s :=
  liftW h fun op w1 h => liftW h fun r w2 h => onBW h fun q h => by
    rw [one_is w1, one_is w2]
    exact wpAny_isTrue_Compare1 (hm := no_mark q) (e_cmp gk S ao (κ := fun c σ => testC G.tt c fun c => κ c σ) I h fun b σ' m' s' st I h => wpAny_truthy_bool (K b _ _ _ st I (testW h)))
theorem e_truth (gk : Gk X G) (S : SE X G k A sc F n) {κ : D → Bool → St → Tr} {Q : Value → Bool → Shared → Prop} (I : Inv X F ρ σ m s.heap) (h : Run (CallOk X k) (cE G n sc e ρ σ (onD fun d σ => lift (truth (thaw σ d)) fun t => κ d t σ)) R)
    (K : ∀ u d t σ' m' s', Step F m m' s s' → Inv X F ρ σ' m' s'.heap → Rep X m'.M (NF F m') s'.heap u d → Run (CallOk X k) (κ d t σ') R → Q u t s') : Ev X F A e (fun v s₁ => wpAny (model X.prog X.w) A (truthy v) (fun c s₂ => Q v c s₂) NoE s₁) s :=
  S I h (KD fun _ _ _ _ _ st I r h => liftW h fun t q h => truth_at (thaw_rep gk.sysIn I r) q fun tk => K _ _ t _ _ _ (st.trans (I.toks tk)) I r h)
theorem e_bool (gk : Gk X G) (S : SE X G k A sc F n) {op : BoolOp} : ∀ {es : List Expr} {σ : St} {m : Ms} {s : Shared}, Inv X F ρ σ m s.heap → Run (CallOk X k) (orC G (fun e σ k => cE G n sc e ρ σ (onD k)) op (fun e σ => cE G n sc e ρ σ κ) κ es σ) R → Kont X (CallOk X k) R F ρ m s κ Q → Ev X F A (.BoolOp op es p) Q s
  | [], _, _, _, _, h, _ => h.elim
  | [_], _, _, _, I, h, K => BoolOp_one (S I h K)
  | x :: y :: r, _, _, _, I, h, K => by
    have key := fun {Q'} => e_truth gk (Q := Q') S I h
    have K2 : ∀ {u d t σ' m' s'}, Step F _ m' _ s' → Inv X F ρ σ' m' s'.heap → Rep X m'.M (NF F m') s'.heap u d → Run (CallOk X k) (testC G.tt t fun t => match short op t with | true => κ (.dat d) σ' | false => orC G (fun e σ k => cE G n sc e ρ σ (onD k)) op (fun e σ => cE G n sc e ρ σ κ) κ (y :: r) σ') R → (if short op t = true then Q u s' else Ev X F A (.BoolOp op (y :: r) p) Q s') := fun {u d t σ' m' s'} st I r h => by
      have h := testW h
      cases q : short op t with
      | true => rw [q] at h; exact K u (.dat d) _ _ _ st I r h
      | false => rw [q] at h; exact e_bool gk S I h (K.after st)
    cases op with
    | And => exact BoolOp_and (key fun u d t σ' m' s' st I r h => by have := K2 st I r h; cases t <;> exact this)
    | Or => exact BoolOp_or (key fun u d t σ' m' s' st I r h => by have := K2 st I r h; cases t <;> exact this)
theorem t_bool (S : SB X G k A sc F n) {op : BoolOp} {whole : Sem Value} {κ : Bool → St → Tr} {Q : Bool → Shared → Prop} : ∀ {es : List Expr} {σ : St} {m : Ms} {s : Shared}, Inv X F ρ σ m s.heap → Run (CallOk X k) (orT (fun e σ k => cT G n sc e ρ σ k) op κ es σ) R → KonT X (CallOk X k) R F ρ m s κ Q → wpAny (model X.prog X.w) A (isTrue (.BoolOp op es p) F.env whole) Q NoE s
  | [], _, _, _, _, h, _ => h.elim
  | [x], _, _, _, I, h, K => by
    cases op with
    | And => exact isTrue_and (S I h fun b σ' m' s' st I h => by cases b with | true => exact isTrue_and_nil (K _ _ _ _ st I h) | false => exact K _ _ _ _ st I h)
    | Or => exact isTrue_or (S I h fun b σ' m' s' st I h => by cases b with | true => exact K _ _ _ _ st I h | false => exact isTrue_or_nil (K _ _ _ _ st I h))
  | x :: y :: r, _, _, _, I, h, K => by
    cases op with
    | And => exact isTrue_and (S (κ := fun t σ => match short .And t with | true => κ t σ | false => orT (fun e σ k => cT G n sc e ρ σ k) .And κ (y :: r) σ) I h fun b σ' m' s' st I h => by cases b with | true => exact t_bool S I h (K.after st) | false => exact K _ _ _ _ st I h)
    | Or => exact isTrue_or (S (κ := fun t σ => match short .Or t with | true => κ t σ | false => orT (fun e σ k => cT G n sc e ρ σ k) .Or κ (y :: r) σ) I h fun b σ' m' s' st I h => by cases b with | true => exact K _ _ _ _ st I h | false => exact t_bool S I h (K.after st))
theorem e_unary (gk : Gk X G) (S : SE X G k A sc F n) {op : UnaryOp} (I : Inv X F ρ σ m s.heap) (h : Run (CallOk X k) (cE G (n + 1) sc (.UnaryOp op e p) ρ σ κ) R) (K : Kont X (CallOk X k) R F ρ m s κ Q) : Ev X F A (.UnaryOp op e p) Q s :=
  UnaryOp_ (S I h (KD fun u d σ' m' s' st I r h => by
    cases op with
    | Not => exact liftW h fun t q h => not_of (truth_at (thaw_rep gk.sysIn I r) q fun tk => (K.after st).at I (d := .bool (!t)) h tk rfl)
    | USub => exact gInt r h fun i t e h => by subst e; exact PyProof.Rows.neg_int ((K.after st).at I (d := .int (-i)) h _ (rInt _ _))
    | _ => exact h.elim))
theorem e_ifexp (S : SE X G k A sc F n) (T : SB X G k A sc F n) (I : Inv X F ρ σ m s.heap) (h : Run (CallOk X k) (cE G (n + 1) sc (.IfExp e l r p) ρ σ κ) R) (K : Kont X (CallOk X k) R F ρ m s κ Q) : Ev X F A (.IfExp e l r p) Q s :=
  IfExp_ (T (κ := fun c σ => match c with | true => cE G n sc l ρ σ κ | false => cE G n sc r ρ σ κ) I h fun c σ' m' s' st I h => by cases c <;> exact S I h (K.after st))
end
end Mine
end
noncomputable section
namespace Mine
open PySem PySem.W PyProof.Rows PySem.Calls PySem.SeqAt
theorem AOk.down {k : Nat} {A : Around} (a : AOk (k + 1) A) : AOk k A := a.le (Nat.le_succ k)
theorem tc_frames (args : Args) : (Code.builtin "type.__call__" args).frames = 0 := by kernel_rfl
theorem tc_guard (args : Args) : (Code.builtin "type.__call__" args).isGuard = false := by kernel_rfl
theorem tc_caller (args : Args) : (Code.builtin "type.__call__" args).isCaller = false := by kernel_rfl
theorem AOk.under {k : Nat} {A : Around} (a : AOk (k + 1) A) (args : Args) : AOk k (A.under (.builtin "type.__call__" args)) := by
  obtain ⟨h1, h2, h3⟩ := a
  have w : (Code.builtin "type.__call__" args).weight ≤ 1 := by
    unfold Code.weight
    rw [tc_frames, tc_guard, tc_caller]
    simp only [Bool.false_eq_true, if_false]
    split <;> decide
  have u : (Code.builtin "type.__call__" args).cUnits = 1 := by
    show 1 + 3 * (Code.builtin "type.__call__" args).frames = 1
    rw [tc_frames]
  refine ⟨h1, ?_, ?_⟩
  · show A.depth + (Code.builtin "type.__call__" args).weight + k < _; omega
  · show A.units + (Code.builtin "type.__call__" args).cUnits + 4 * k + 40 < _; omega
section
variable {X : Wd} {G : Cfg} {k n : Nat} {A : Around} {sc : Scope} {F : Fm} {C : CRel} {R : Out} {ρ : Rho} {σ σ' : St} {m m' : Ms} {s s' : Shared} {Q : Value → Shared → Prop} {u : Value} {d : D} {κ : V → St → Tr} {e o i : Expr} {es : List Expr} {p : Pos} {x : Str} {ds : List D} {vs : List Value} {a : Addr}
theorem e_part (S : SE X G k A sc F n) {op : Option Expr} {κ : Option D → St → Tr} (I : Inv X F ρ σ m s.heap) (h : Run (CallOk X k) (partC (fun e σ k => cE G n sc e ρ σ (onD k)) op σ κ) R)
    (K : ∀ u d σ' m' s', Step F m m' s s' → Inv X F ρ σ' m' s'.heap → (∀ m'' s'', Step F m' m'' s' s'' → RepO X m''.M (NF F m'') s''.heap u d) → Run (CallOk X k) (κ d σ') R → Q u s') : wpAny (model X.prog X.w) A (evalPart op F.env) Q NoE s := by
  cases op with
  | none => exact wpAny_evalPart_none (K _ none _ _ _ I.same I (fun _ _ _ => rfl) h)
  | some e => exact wpAny_evalPart_some (S I h (KD fun u d _ _ _ st I r h => K u (some d) _ _ _ st I (fun _ _ st => Rep.step r st) h))
theorem slice_is {q : Option Expr × Option Expr × Option Expr} (h : sliceOf i = some q) : ∃ p, i = .Slice q.1 q.2.1 q.2.2 p := by
  cases i <;> first | exact nn h | (cases h; exact ⟨_, rfl⟩)
theorem e_sub (S : SE X G k A sc F n) (I : Inv X F ρ σ m s.heap) (h : Run (CallOk X k) (cE G (n + 1) sc (.Subscript o i p) ρ σ κ) R) (K : Kont X (CallOk X k) R F ρ m s κ Q) : Ev X F A (.Subscript o i p) Q s := by
  have h : Run (CallOk X k) (cE G n sc o ρ σ (subC G (fun e σ k => cE G n sc e ρ σ k) i κ (sliceOf i))) R := h
  cases w : sliceOf i with
  | none =>
    rw [w] at h
    exact Subscript_ (S I h fun _ _ _ _ _ st₁ I₁ r₁ h => S I₁ h (KD fun _ _ _ _ _ st₂ I₂ r₂ h => primW h fun d q h => item_at I₂ (r₁.step st₂) r₂ q (sub_plain w) fun x tk r => (K.after (st₁.trans st₂)).at I₂ h tk r))
  | some q =>
    obtain ⟨p, rfl⟩ := slice_is w
    rw [w] at h
    obtain ⟨lo, hi, st⟩ := q
    cases st with
    | some st => exact Subscript_ (S I h fun _ _ _ _ _ _ _ _ h => h.elim)
    | none =>
      refine slice_rule (S I h fun ov v σ₁ m₁ s₁ st₁ I₁ r₁ h => ?_)
      cases v with
      | loc => exact h.elim
      | dat d =>
        exact e_part S (op := lo) (κ := fun x σ => partC (fun e σ k => cE G n sc e ρ σ (onD k)) hi σ fun y σ => primC G.pm (sliceD d x y) fun r => κ (.dat r) σ) I₁ h fun _ _ _ _ _ st₂ I₂ r₂ h => e_part S I₂ h fun _ _ _ _ _ st₃ I₃ r₃ h => primW h fun r q h =>
          sub_at I₃ q (Rep.step r₁ (st₂.trans st₃)) (r₂ _ _ st₃) (r₃ _ _ I₃.same) fun x s' st I r => K x (.dat _) _ _ _ ((st₁.trans (st₂.trans st₃)).trans st) I r h
theorem base_plain {env : Env} (h : plainBase o = true) : attributeBase o x env (eval o env) = eval o env := by
  cases o <;> first | rfl | exact nf h
theorem e_attr (gk : Gk X G) (S : SE X G k A sc F n) (I : Inv X F ρ σ m s.heap) (h : Run (CallOk X k) (cE G (n + 1) sc (.Attribute o x p) ρ σ κ) R) (K : Kont X (CallOk X k) R F ρ m s κ Q) : Ev X F A (.Attribute o x p) Q s := by
  refine onBW h fun hb h => ?_
  unfold Ev
  rw [arm_eval_Attribute, base_plain hb]
  exact wpAny_bind (S I h (KD fun _ _ _ _ _ st I r h => liftW h fun d q h => wpAny_bind (wpAny_standAt (wpAny_bind (wpAny_holding (attr_at gk I r q fun v tk r => wpAny_bind (wpAny_letTemporaryGo (wpAny_pure ((K.after st).at I h tk r)))))))))
theorem call_dot {ap pos : Pos} {args : List Expr} {env : Env} {E : Value → Shared → Prop} (hb : plainBase o = true) (hl : (ap.endLine == pos.line) = true) (hn : Nat.blt args.length 30 = true) (hf : (backTo pos (starEach args env)).all (fun x => !x.1) = true)
    (h : wpAny (model X.prog X.w) A (eval o env) (fun ov s₁ => ∀ pl, wpAny (model X.prog X.w) A (getMethod ov x pl) (fun fx s₂ => wpAny (model X.prog X.w) A (callWith pos fx.1 fx.2 (backTo pos (starEach args env)) []) Q E s₂) E s₁) E s) :
    wpAny (model X.prog X.w) A (eval (.Call (.Attribute o x ap) args [] pos) env) Q E s := by
  rw [arm_eval_Call, base_plain hb]
  refine wpAny_bind (wpAny_mono h (fun ov s₁ h₁ => wpAny_bind (wpAny_standAt ?_)) fun _ _ e => e)
  have hform : methodCallForm (args.length + ([] : List Keyword).length) (backTo pos (starEach args env)) (backToKw pos (keywordEach [] env)) = true := by
    unfold methodCallForm
    rw [hf]
    exact decide_eq_true (Nat.blt_eq.mp hn)
  have hpos : methodCallPos true o env ap pos = pure pos := by unfold methodCallPos; simp [hl]
  unfold methodCall
  rw [hform]
  exact wpAny_bind (wpAny_holding (wpAny_mono (h₁ _) (fun fx s₂ h₂ => wpAny_bind (wpAny_of_eq hpos h₂)) fun _ _ e => e))
theorem ask_at (ao : AOk k A) (I : Inv X F ρ σ m s.heap) (rs : Reps X m.M (NF F m) s.heap vs ds) (h : Run (CallOk X k) (askC a ds σ κ) R) (K : Kont X (CallOk X k) R F ρ m s κ Q) : wpAny (model X.prog X.w) A (PySem.call (.ref a) vs) Q NoE s := by
  obtain ⟨r, pi', hc, h⟩ := h
  exact wpAny_call (hc A F ρ σ.lc m s vs Q NoE ao I rs fun v m' s' st I' r => K v (.dat _) _ _ _ st I' r h)
theorem fn_call (ao : AOk k A) (S : SE X G k A sc F n) {ob : Obj} {fd : FuncData} {first : List Value} {fs : List D} (ho : X.hb.get? a = some ob) (hfd : ob.data = .func fd) (oe : okEs es = true) (I : Inv X F ρ σ m s.heap) (rf : Reps X m.M (NF F m) s.heap first fs)
    (h : Run (CallOk X k) (mapC (fun e σ k => cE G n sc e ρ σ (onD k)) es σ fun ds σ => askC a (fs ++ ds) σ κ) R) (K : Kont X (CallOk X k) R F ρ m s κ Q) : wpAny (model X.prog X.w) A (callWith p (.ref a) first (backTo p (starEach es F.env)) []) Q NoE s :=
  callWith_function (o := ob) (fd := fd) (e_eargs S p oe I h fun us ds σ' m' s' st I rs h => ⟨⟨I.base _ _ ho, hfd⟩, ask_at ao I ((rf.step st).append rs) h (K.after st)⟩)
theorem e_dot (gk : Gk X G) (ao : AOk k A) (S : SE X G k A sc F n) {ap : Pos} (I : Inv X F ρ σ m s.heap) (h : Run (CallOk X k) (cE G (n + 1) sc (.Call (.Attribute o x ap) es [] p) ρ σ κ) R) (K : Kont X (CallOk X k) R F ρ m s κ Q) : Ev X F A (.Call (.Attribute o x ap) es [] p) Q s := by
  refine onBW h fun hc h => ?_
  obtain ⟨oe, hc⟩ := Bool.and_eq_true_iff.mp hc
  obtain ⟨hc, hn⟩ := Bool.and_eq_true_iff.mp hc
  obtain ⟨hb, hl⟩ := Bool.and_eq_true_iff.mp hc
  obtain ⟨pl1, pl2⟩ := args_plain p F.env oe
  refine call_dot hb hl hn pl2 (S I h fun ov v σ₁ m₁ s₁ st₁ I₁ r₁ h pl => ?_)
  have K := K.after st₁
  clear I hc hb hl hn pl2 st₁
  cases v with
  | loc i =>
    refine liftW h fun mm q h => onBW h fun q2 h => ?_
    obtain ⟨b, e, rfl⟩ := r₁
    have lt : i < σ₁.lc.length := I₁.llen ▸ (List.getElem?_eq_some_iff.mp e).1
    obtain @⟨vs, pp, _⟩ := I₁.lst _ _ _ e (List.getElem?_eq_getElem lt)
    rw [mt_name q]
    exact lst_mt pp q2 (PySem.Calls.callWith_builtin pl1 (e_eargs S p oe I₁ h fun us ds σ' m' s' st I rs h => liftW h fun l w h => lresW h fun r w2 h =>
      locM_at I (by obtain ⟨t, ht⟩ := st.preK; rw [← ht, List.getElem?_append_left (List.getElem?_eq_some_iff.mp e).1]; exact e) w rs w2 fun u s'' st2 I2 r2 => K u (.dat _) _ _ _ (st.trans st2) I2 r2 h))
  | dat d =>
    have h : Run (CallOk X k) (mdotC (fun e σ k => cE G n sc e ρ σ (onD k)) es x κ d σ₁ (methA G d x σ₁)) R := h
    cases w : methA G d x σ₁ with
    | some a =>
      rw [w] at h
      refine bindW w fun q w1 w2 => ?_
      obtain ⟨b, dx, vs, rfl, @⟨ox, es', nn', _, In, _, hl, _⟩, z, rs⟩ := obj_at (cl := q.1) (ns := q.2.1) (ds := q.2.2) I₁ r₁ w1
      cases w3 : fget q.2.1 q.2.2 x with
      | some => rw [w3] at w2; cases w2
      | none =>
        rw [w3] at w2
        refine bindW w2 fun f w4 w5 => ?_
        cases w5
        obtain ⟨ob, fd, ho, hfd⟩ := gk.methFn _ x a w4
        exact gk.methOk _ x a w4 A s₁ b ox es' nn' pl _ _ I₁.base In (by rw [hl, (fget_at z rs).2 w3]) (fn_call ao S ho hfd oe I₁ (Reps.one r₁) h K)
    | none =>
      rw [w] at h
      exact liftW h fun mm q h => onBW h fun q2 h => by
        rw [mt_name q]
        exact ready_at I₁ r₁ q2 (PySem.Calls.callWith_builtin pl1 (e_eargs S p oe I₁ h fun us ds σ' m' s' st I rs h => met_at gk ao.u8 I q2 (Rep.step r₁ st) rs h (K.after st)))
end
end Mine
end
noncomputable section
namespace Mine
open PySem PySem.W PyProof.Rows PySem.Calls PySem.SeqAt
section
variable {X : Wd} {G : Cfg} {k n : Nat} {A : Around} {sc : Scope} {F : Fm} {C : CRel} {R : Out} {ρ : Rho} {σ σ' : St} {m m' : Ms} {s s' : Shared} {Q : Value → Shared → Prop} {u : Value} {d : D} {κ : V → St → Tr} {e o i : Expr} {es : List Expr} {p : Pos} {x : Str} {ds : List D} {vs : List Value} {a cl : Addr}
theorem new_at (gk : Gk X G) (ao : AOk (k + 1) A) (I : Inv X F ρ σ m s.heap) (rs : Reps X m.M (NF F m) s.heap vs ds) (h : Run (CallOk X k) (newC G cl ds σ κ) R) (K : Kont X (CallOk X k) R F ρ m s κ Q) : wpAny (model X.prog X.w) A (PySem.call (.ref cl) vs) Q NoE s := by
  obtain ⟨Kf, KX, _, hcls⟩ := gk.own
  have KX' : Kf.In s.heap := KX.keeps I.base
  have e0 : s.heap.get? s.heap.objs.size = none := fresh_none _
  have e1 : s.heap.get? (s.heap.objs.size + 1) = none := Heap.get?_none_of_le (Nat.le_succ _)
  have gx : ((s.heap.push emptyDict).push (instObj cl s.heap.objs.size)).get? (s.heap.objs.size + 1) = some (instObj cl s.heap.objs.size) := by heap_get
  have gd : ((s.heap.push emptyDict).push (instObj cl s.heap.objs.size)).get? s.heap.objs.size = some emptyDict := by heap_get
  obtain ⟨hh, g, dd, t, os⟩ := s
  obtain ⟨st, I1⟩ := I.add (s' := ⟨(hh.push emptyDict).push (instObj cl hh.objs.size), g, dd, t, os⟩) (p := (hh.objs.size + 1, hh.objs.size)) (c := .obj cl [] []) ⟨_, _, rfl⟩ (fun b o e => Heap.get?_push_of_some _ (Heap.get?_push_of_some _ e)) e1 e0 ⟨_, gx⟩ ⟨_, gd⟩ fun _ =>
    .mk (vs := []) (Nat.succ_ne_self _) (.mk (es := []) (n := 0) rfl ⟨gx, rfl, rfl, gd⟩ rfl (fun y => rfl) fun v m => (by cases m)) rfl rfl
  have self : Rep X (m.M ++ [(hh.objs.size + 1, hh.objs.size)]) (NF F ⟨m.M ++ [(hh.objs.size + 1, hh.objs.size)], m.K⟩) ((hh.push emptyDict).push (instObj cl hh.objs.size)) (.ref (hh.objs.size + 1)) (.cell σ.pi.length) := RCell.mk (by rw [← I.len]; exact List.getElem?_concat_length) rfl
  refine liftW h fun f hc h => ?_
  obtain ⟨c1, c2, c3⟩ := hcls cl _ hc
  have Y := makes_of (M := model X.prog X.w) KX' c1
  cases f with
  | some f =>
    obtain ⟨c3, c4⟩ := c3
    obtain ⟨r, pi', hf, h⟩ := h
    refine onBW h fun q h => ?_
    cases isN_is q
    refine wpAny_call (make_core Y (looks_findIn KX' c3) (fun self => bind_fn KX' self c4) (.inl rfl) ?_)
    refine codeAny_mono (hf _ F ρ σ.lc _ _ (.ref (hh.objs.size + 1) :: vs) (fun v s' => v = .none ∧ Q (.ref (hh.objs.size + 1)) s') NoE (AOk.under ao _) I1 (Reps.cons self (rs.step st)) fun v m' s' st' I' rr => ⟨rr, K _ (.dat (.cell σ.pi.length)) _ _ _ (st.trans st') I' (Rep.step self st') h⟩) fun r s' q => ?_
    rcases r with e | (v | _ | _ | _) <;> exact q
  | none =>
    cases ds with
    | cons => exact h.elim
    | nil =>
      cases rs
      refine wpAny_call (make_core Y (looks_findIn KX' c3) (fun self => Looks.of_pure (oi_bind self)) (.inr ⟨rfl, rfl⟩) ?_)
      have t1 : Looks (model X.prog X.w) ((hh.push emptyDict).push (instObj cl hh.objs.size)) (typeOf (.ref (hh.objs.size + 1))) (.ref cl) := (Looks.ld gx).andThen .now
      have t2 : Looks (model X.prog X.w) ((hh.push emptyDict).push (instObj cl hh.objs.size)) (isInstance (.ref (hh.objs.size + 1)) (.type "object")) true := t1.andThen (Y.top.keeps fun b o e => Heap.get?_push_of_some _ (Heap.get?_push_of_some _ e))
      refine codeAny_call_builtin oi_plain entry_oi (@check_slot (model X.prog X.w) _ _ _ "object.__init__" "object" "__init__" (.ref (hh.objs.size + 1)) [] [] _ oi_kind oi_split t2 (oi_args (.ref (hh.objs.size + 1))) ?_)
      rw [oi_run]
      exact wpAny_pure (And.intro rfl (K _ (.dat (.cell σ.pi.length)) _ _ _ st I1 self h))
theorem callWith_bi {b : Bi} {pos : Pos} {args : List (Bool × Sem Value)} {E : Value → Shared → Prop} (hplain : args.any (·.1) = false)
    (h : wpAny (model X.prog X.w) A (evalArgs b.val true args []) (fun a s₁ => wpAny (model X.prog X.w) A (PySem.call b.val ([] ++ a.pos) a.kw) Q E s₁) E s) :
    wpAny (model X.prog X.w) A (callWith pos b.val [] args []) Q E s := by
  cases b with
  | len => exact PySem.Calls.callWith_builtin (id := "len") hplain h
  | range => exact PyProof.Rows.callWith_type (T := "range") hplain h
  | isinst => exact PySem.Calls.callWith_builtin (id := "isinstance") hplain h
  | strT => exact PyProof.Rows.callWith_type (T := "str") hplain h
  | chr => exact PySem.Calls.callWith_builtin (id := "chr") hplain h
  | max => exact PySem.Calls.callWith_builtin (id := "max") hplain h
  | listT => exact PyProof.Rows.callWith_type (T := "list") hplain h
  | tupleT => exact PyProof.Rows.callWith_type (T := "tuple") hplain h
  | min => exact PySem.Calls.callWith_builtin (id := "min") hplain h
  | dictT => exact PyProof.Rows.callWith_type (T := "dict") hplain h
theorem isK_is {kd : NameKind} {q : Option NameKind} (h : isK kd q = true) : q = some kd := by
  cases q with
  | none => exact nf h
  | some j => cases kd <;> cases j <;> first | rfl | exact nf h
theorem e_bi (gk : Gk X G) (ao : AOk k A) (S : SE X G k A sc F n) {b : Bi} (oe : okEs es = true) (I : Inv X F ρ σ m s.heap) (h : Run (CallOk X k) (biC (fun e σ k => cE G n sc e ρ σ k) b es σ κ) R) (K : Kont X (CallOk X k) R F ρ m s κ Q) : wpAny (model X.prog X.w) A (callWith p b.val [] (backTo p (starEach es F.env)) []) Q NoE s := by
  refine callWith_bi (args_plain p F.env oe).1 ?_
  cases es with
  | nil => exact h.elim
  | cons e₁ es =>
    obtain ⟨o1, o2⟩ := okEs_cons oe
    rw [star_plain o1]
    cases es with
    | nil => exact evalArgs_plain (spliced_cons (S I h fun u v σ' m' s' st I r h => spliced_nil (bi1_at gk.sysIn h I r (K.after st))))
    | cons e₂ es => cases es with
      | cons => exact h.elim
      | nil =>
        rw [star_plain (okEs_cons o2).1]
        exact evalArgs_plain (spliced_cons (S I h (KD fun _ _ _ _ _ st I r h => spliced_cons (S I h (KD fun _ _ _ _ _ st₂ I₂ r₂ h => spliced_nil (bi2_at ao.handled h I₂ (r.step st₂) r₂ (K.after (st.trans st₂))))))))
theorem e_call (gk : Gk X G) (ok : FOk F sc) (ao : AOk (k + 1) A) (S : SE X G k A sc F n) {xp : Pos} (I : Inv X F ρ σ m s.heap) (h : Run (CallOk X k) (cE G (n + 1) sc (.Call (.Name x xp) es [] p) ρ σ κ) R) (K : Kont X (CallOk X k) R F ρ m s κ Q) : Ev X F A (.Call (.Name x xp) es [] p) Q s := by
  refine onBW h fun hc h => ?_
  obtain ⟨oe, q⟩ := Bool.and_eq_true_iff.mp hc
  have q := isK_is q
  show wpAny _ A (do callWith p (← eval (.Name x xp) F.env) [] (backTo p (starEach es F.env)) []) Q NoE s
  unfold nameC at h
  cases w : G.gcls x with
  | some cl =>
    rw [w] at h
    obtain ⟨hdbg, ⟨mg, hmg, hx⟩, r, hr⟩ := gk.gcls x cl w
    have hg' := hmg.keeps I.base
    rw [← ok.glob] at hg'
    obtain ⟨Kf, KX, _, hcls⟩ := gk.own
    refine wpAny_bind (Name_function_global ok.kind (ok.glo x q) (loadGlobal_global hg' hx ?_) hdbg)
    exact callWith_of (P := Kf.In) (by rw [(args_plain p F.env oe).1]; rfl) (fun hh XX => keeps_K (hcls cl r hr).2.1 hh XX) (e_eargs S (f := .ref cl) p oe I h fun us ds σ' m' s' st I rs h => ⟨KX.keeps I.base, new_at gk ao I rs h (K.after st)⟩)
  | none =>
    rw [w] at h
    refine liftW h fun g hg h => wpAny_bind (glob_at gk hg I ok q fun v r => ?_)
    clear hg hc
    cases g with
    | ref a =>
      obtain @⟨ob, fd, rfl, ho, hfd⟩ := r
      exact fn_call ao.down S ho hfd oe I (first := []) (fs := []) rfl h K
    | bi b =>
      cases r
      exact e_bi gk ao.down S oe I h K
    | _ => exact h.elim
end
end Mine
end
noncomputable section
namespace Mine
open PySem PySem.W PyProof.Rows PySem.Calls PySem.SeqAt
section
variable {X : Wd} {G : Cfg} {k n : Nat} {A : Around} {sc : Scope} {F F' : Fm} {C : CRel} {R : Out} {ρ ρ' ρ₂ : Rho} {σ σ' : St} {m m' : Ms} {s s' s'' : Shared} {u : Value} {d : D} {E : Value → Shared → Prop} {h h' : Heap} {a : Addr}
theorem RepV.mono {v : V} (r : RepV X F m h u v) (p : m.M <+: m'.M) (q : m.K <+: m'.K) (k : KeptN (NF F m) h h') (g : Grown (NF F m) (NF F' m') h) : RepV X F' m' h' u v := by
  cases v with
  | dat d => exact Rep.mono p k g r
  | loc i =>
    obtain ⟨x, e, r⟩ := r
    obtain ⟨t, ht⟩ := q
    exact ⟨x, by rw [← ht, List.getElem?_append_left (List.getElem?_eq_some_iff.mp e).1]; exact e, r⟩
theorem Inv.shift (I : Inv X F ρ σ m h) (H : Addr → Prop) (Z : Addr → Prop) (hz : ∀ b, Z b → F.hid b) (kk : ∀ b o, ¬ Z b → h.get? b = some o → h'.get? b = some o) (sub : ∀ b, H b → F.hid b ∨ h.get? b = none) (al : ∀ b, H b → ∃ o, h'.get? b = some o)
    (ml : ∀ b, b = F.env.locals ∨ fl m.M b ∨ b ∈ m.K → ¬ H b) : Inv X ⟨F.env, H⟩ ρ σ m h' := by
  have k : KeptN (NF F m) h h' := fun b o n e => kk b o (fun w => n (.inl (hz b w))) e
  have gr : Grown (NF F m) (NF ⟨F.env, H⟩ m) h := fun b q => q.elim (fun q => (sub b q).imp .inl id) fun q => .inl (.inr q)
  have nz : ∀ b, b = F.env.locals ∨ fl m.M b ∨ b ∈ m.K → ¬ Z b := fun b q w => q.elim (fun q => I.lhid (q ▸ hz b w)) fun q => (I.mhid b q).1 (hz b w)
  refine ⟨fun b o e => k b o (fun w => nos (I.off b w) e) (I.base b o e), fun b q => (gr b q).elim (I.off b) fun e => ?_, fun b q => q.elim (al b) fun q => let ⟨o, e⟩ := I.hin b (.inr q); ⟨o, kk b o (nz b q) e⟩, ml _ (.inl rfl), fun b q => ⟨ml b (.inr q), (I.mhid b q).2⟩, I.dis, I.apart, I.knd, ?_, fun x v e1 e2 => ?_, I.len, fun i p c e1 e2 => ?_, I.llen, fun i b d e1 e2 => ?_⟩
  · cases w : X.hb.get? b with
    | none => rfl
    | some o => exact nos e (I.base _ _ w)
  · obtain ⟨f, ⟨o, es, ep, ho, q⟩, hm⟩ := I.loc
    exact ⟨f, ⟨o, es, ep, kk _ _ (nz _ (.inl rfl)) ho, q⟩, fun x v e1 e2 => let ⟨u, a, b⟩ := hm x v e1 e2; ⟨u, a, b.mono (List.prefix_refl _) (List.prefix_refl _) k gr⟩⟩
  · obtain ⟨c, u, a1, ⟨o, ho, hd⟩, a3, a4⟩ := I.cel x v e1 e2
    exact ⟨c, u, a1, ⟨o, k _ _ a3 ho, hd⟩, off_of gr a3 ho, a4.mono (List.prefix_refl _) (List.prefix_refl _) k gr⟩
  · obtain ⟨f1, f2⟩ := fl_get e1
    exact (I.at_ i p c e1 e2).mono (List.prefix_refl _) k gr (fun o => kk _ o (nz _ (.inr (.inl f1)))) fun o => kk _ o (nz _ (.inr (.inl f2)))
  · have f := nz b (.inr (.inr (List.mem_of_getElem? e1)))
    exact (I.lst i b d e1 e2).mono (List.prefix_refl _) k gr (fun o => kk _ o f) fun o => kk _ o f
noncomputable def Fm.hide (F : Fm) (a : Addr) : Fm := ⟨F.env, fun b => F.hid b ∨ b = a⟩
theorem nf_hide {b : Addr} (q : NF (F.hide a) m b) : NF F m b ∨ b = a := q.elim (fun q => q.imp .inl id) fun q => .inl (.inr q)
theorem nf_of_hide {b : Addr} (q : NF F m b) : NF (F.hide a) m b := q.imp .inl id
theorem FOk.hide (ok : FOk F sc) (a : Addr) : FOk (F.hide a) sc := ⟨ok.nd, ok.kind, ok.glob, ok.bui, ok.loc, ok.cel, ok.fre, ok.glo⟩
theorem Step.unhide (st : Step (F.hide a) m m' s s') : Step F m m' s s' := ⟨st.same, st.pre, st.preK, st.new, st.there, st.kept, st.alive⟩
theorem Inv.nfl (I : Inv X F ρ σ m h) {b : Addr} (e : h.get? a = none) (q : b = F.env.locals ∨ fl m.M b ∨ b ∈ m.K) : b ≠ a := fun w => let ⟨_, q⟩ := I.hin b (.inr q); nos e (w ▸ q)
theorem Inv.hide (I : Inv X F ρ σ m h) (kk : ∀ b o, h.get? b = some o → h'.get? b = some o) (e : h.get? a = none) (al : ∃ o, h'.get? a = some o) : Inv X (F.hide a) ρ σ m h' :=
  I.shift (fun b => F.hid b ∨ b = a) (fun _ => False) (fun _ => False.elim) (fun b o _ => kk b o) (fun b q => q.imp id fun (q : b = a) => q.symm ▸ e) (fun b q => q.elim (fun q => let ⟨o, e⟩ := I.hin b (.inl q); ⟨o, kk b o e⟩) fun (q : b = a) => q.symm ▸ al)
    fun b q w => w.elim (fun w => q.elim (fun q => I.lhid (q ▸ w)) fun q => (I.mhid b q).1 w) (I.nfl e q)
theorem Inv.drop (I : Inv X (F.hide a) ρ σ m h) (na : ¬ F.hid a) (kk : ∀ b o, b ≠ a → h.get? b = some o → h'.get? b = some o) : Inv X F ρ σ m h' :=
  I.shift F.hid (fun b => b = a) (fun b w => .inr w) kk (fun b q => .inl (.inl q)) (fun b q => let ⟨o, e⟩ := I.hin b (.inl (.inl q)); ⟨o, kk b o (fun w => na (w ▸ q)) e⟩) fun b q w => q.elim (fun q => I.lhid (.inl (q ▸ w))) fun q => (I.mhid b q).1 (.inl w)
theorem Inv.keepH (I : Inv X F ρ σ m h) (ha : F.hid a) (kk : ∀ b o, b ≠ a → h.get? b = some o → h'.get? b = some o) (al : ∃ o, h'.get? a = some o) : Inv X F ρ σ m h' :=
  I.shift F.hid (fun b => b = a) (fun b w => w ▸ ha) kk (fun b q => .inl q) (fun b q => if w : b = a then w ▸ al else let ⟨o, e⟩ := I.hin b (.inl q); ⟨o, kk b o w e⟩) fun b q w => q.elim (fun q => I.lhid (q ▸ w)) fun q => (I.mhid b q).1 w
theorem Inv.enter (I : Inv X F ρ σ m h) {Ex : Addr → Prop} (hh : ∀ b, F'.hid b ↔ F.hid b ∨ b = F.env.locals ∨ b ∈ m.K ∨ Ex b) (kk : ∀ b o, h.get? b = some o → h'.get? b = some o) (ex : ∀ b, Ex b → h.get? b = none ∧ ∃ o, h'.get? b = some o) (fl' : h.get? F'.env.locals = none) (nl : ¬ Ex F'.env.locals)
    (lo : Grown (NF F m) (NF F' ⟨m.M, []⟩) h → Locs X F' ρ₂ ⟨m.M, []⟩ h') (ce : Grown (NF F m) (NF F' ⟨m.M, []⟩) h → Cels X F' ρ₂ ⟨m.M, []⟩ h') : Inv X F' ρ₂ ⟨σ.pi, []⟩ ⟨m.M, []⟩ h' := by
  have gr : Grown (NF F m) (NF F' ⟨m.M, []⟩) h := fun b q => by
    rcases q with q | q | q | q
    · exact ((hh b).mp q).elim (fun q => .inl (.inl q)) fun q => q.elim (fun q => .inl (.inr (.inl q))) fun q => q.elim (fun q => .inl (.inr (.inr (.inr q)))) fun q => .inr (ex b q).1
    · exact .inr (q ▸ fl')
    · exact .inl (.inr (.inr (.inl q)))
    · cases q
  have k : KeptN (NF F m) h h' := fun b o _ e => kk b o e
  have lo := lo gr
  refine ⟨fun b o e => kk b o (I.base b o e), fun b q => (gr b q).elim (I.off b) fun e => ?_, fun b q => ?_, fun q => ?_, fun b q => ?_, fun b q => (by cases q), I.apart, List.nodup_nil, lo, ce gr, I.len, fun i p c e1 e2 => (I.at_ i p c e1 e2).mono (List.prefix_refl _) k gr (fun o => kk _ o) fun o => kk _ o, rfl, fun i b d e _ => (by cases e)⟩
  · cases w : X.hb.get? b with
    | none => rfl
    | some o => exact nos e (I.base _ _ w)
  · have old : ∀ {b}, NF F m b → ∃ o, h'.get? b = some o := fun {b} q => let ⟨o, e⟩ := I.hin b q; ⟨o, kk b o e⟩
    rcases q with q | q | q | q
    · exact ((hh b).mp q).elim (fun q => old (.inl q)) fun q => q.elim (fun q => old (.inr (.inl q))) fun q => q.elim (fun q => old (.inr (.inr (.inr q)))) fun q => (ex b q).2
    · obtain ⟨_, ⟨o, _, _, e, _⟩, _⟩ := lo; exact q ▸ ⟨o, e⟩
    · exact old (.inr (.inr (.inl q)))
    · cases q
  · have no : ∀ {b}, NF F m b → b ≠ F'.env.locals := fun {b} q w => let ⟨_, e⟩ := I.hin b q; nos fl' (w ▸ e)
    exact ((hh _).mp q).elim (fun q => no (.inl q) rfl) fun q => q.elim (fun q => no (.inr (.inl q)) rfl) fun q => q.elim (fun q => no (.inr (.inr (.inr q))) rfl) nl
  · have q : fl m.M b := q.elim id fun q => by cases q
    obtain ⟨o, e⟩ := I.hin b (.inr (.inr (.inl q)))
    refine ⟨fun w => ?_, fun w => nos fl' (w ▸ e)⟩
    exact ((hh b).mp w).elim (I.mhid b (.inl q)).1 fun w => w.elim (I.mhid b (.inl q)).2 fun w => w.elim (fun w => I.dis b w q) fun w => nos (ex b w).1 e
theorem Inv.back (I : Inv X F ρ σ m s.heap) {Ex : Addr → Prop} (hh : ∀ b, F'.hid b ↔ F.hid b ∨ b = F.env.locals ∨ b ∈ m.K ∨ Ex b) (ex : ∀ b, Ex b → s.heap.get? b = none) (fl' : s.heap.get? F'.env.locals = none)
    (st : Step F' ⟨m.M, []⟩ m' s s'') (I' : Inv X F' ρ₂ σ' m' s''.heap) : Step F m ⟨m'.M, m.K⟩ s s'' ∧ Inv X ⟨F.env, fun b => F.hid b ∨ b = F'.env.locals ∨ Ex b⟩ ρ ⟨σ'.pi, σ.lc⟩ ⟨m'.M, m.K⟩ s''.heap ∧ ∀ b, NF F ⟨m'.M, m.K⟩ b ∨ b = F'.env.locals ∨ Ex b → NF F' m' b := by
  have no : ∀ b o, s.heap.get? b = some o → ¬ (b = F'.env.locals ∨ Ex b) := fun b o e w => w.elim (fun w => nos fl' (w ▸ e)) fun w => nos (ex b w) e
  have kept : ∀ b o, s.heap.get? b = some o → ¬ fl m.M b → s''.heap.get? b = some o := fun b o e n => st.kept b o e (fun w => no b o e (.inl w)) fun q => q.elim n fun q => by cases q
  have new : ∀ b, fl m'.M b → fl m.M b ∨ s.heap.get? b = none := fun b q => (st.new b (.inl q)).imp (fun q => q.elim id fun q => by cases q) id
  have sub : ∀ b, NF F ⟨m'.M, m.K⟩ b ∨ b = F'.env.locals ∨ Ex b → NF F' m' b := fun b q => by
    rcases q with (q | q | q | q) | q | q
    · exact .inl ((hh b).mpr (.inl q))
    · exact .inl ((hh b).mpr (.inr (.inl q)))
    · exact .inr (.inr (.inl q))
    · exact .inl ((hh b).mpr (.inr (.inr (.inl q))))
    · exact .inr (.inl q)
    · exact .inl ((hh b).mpr (.inr (.inr (.inr q))))
  have sub' : ∀ b, NF ⟨F.env, fun b => F.hid b ∨ b = F'.env.locals ∨ Ex b⟩ ⟨m'.M, m.K⟩ b → NF F' m' b := fun b q => sub b (q.elim (fun q => q.imp .inl id) fun q => .inl (.inr q))
  have nk : ∀ b ∈ m.K, ¬ fl m'.M b := fun b q w => (I'.mhid b (.inl w)).1 ((hh b).mpr (.inr (.inr (.inl q))))
  have gr : Grown (NF F m) (NF ⟨F.env, fun b => F.hid b ∨ b = F'.env.locals ∨ Ex b⟩ ⟨m'.M, m.K⟩) s.heap := fun b q => by
    rcases q with (q | q | q) | q | q | q
    · exact .inl (.inl q)
    · exact .inr (q ▸ fl')
    · exact .inr (ex b q)
    · exact .inl (.inr (.inl q))
    · exact (new b q).imp (fun q => .inr (.inr (.inl q))) id
    · exact .inl (.inr (.inr (.inr q)))
  have S : Step F m ⟨m'.M, m.K⟩ s s'' := ⟨st.same, st.pre, List.prefix_refl _, fun b q => q.elim (fun q => (new b q).imp .inl id) fun q => .inl (.inr q), fun b q => I'.hin b (sub b (.inl (.inr (.inr q)))), fun b o e _ n => kept b o e fun q => n (.inl q), st.alive⟩
  have kK : ∀ b ∈ m.K, ∀ o, s.heap.get? b = some o → s''.heap.get? b = some o := fun b q o e => kept b o e (I.dis b q)
  have k := S.keptN
  have nl : ∀ b, NF F m b → ¬ (b = F'.env.locals ∨ Ex b) := fun b q => let ⟨o, e⟩ := I.hin b q; no b o e
  refine ⟨S, ⟨I'.base, fun b q => I'.off b (sub' b q), fun b q => I'.hin b (sub' b q), fun q => q.elim I.lhid (nl _ (.inr (.inl rfl))), fun b q => ?_, nk, I'.apart, I.knd, ?_, fun x v e1 e2 => ?_, I'.len, fun i p c e1 e2 => (I'.at_ i p c e1 e2).mono (List.prefix_refl _) (fun b o _ e => e) (fun b q => .inl (sub' b q)) (fun o e => e) (fun o e => e), I.llen, fun i b d e1 e2 => (I.lst i b d e1 e2).mono st.pre k gr (kK b (List.mem_of_getElem? e1)) (kK b (List.mem_of_getElem? e1))⟩, sub⟩
  · rcases q with q | q
    · obtain ⟨m1, m2⟩ := I'.mhid b (.inl q)
      exact ⟨fun w => w.elim (fun w => m1 ((hh b).mpr (.inl w))) fun w => w.elim m2 fun w => m1 ((hh b).mpr (.inr (.inr (.inr w)))), fun w => m1 ((hh b).mpr (.inr (.inl w)))⟩
    · exact ⟨fun w => w.elim (I.mhid b (.inr q)).1 (nl b (.inr (.inr (.inr q)))), (I.mhid b (.inr q)).2⟩
  · obtain ⟨f, ⟨o, es, ep, ho, q⟩, hm⟩ := I.loc
    exact ⟨f, ⟨o, es, ep, kept _ _ ho fun q => (I.mhid _ (.inl q)).2 rfl, q⟩, fun x v e1 e2 => let ⟨u, a, b⟩ := hm x v e1 e2; ⟨u, a, b.mono st.pre (List.prefix_refl _) k gr⟩⟩
  · obtain ⟨c, u, a1, ⟨o, ho, hd⟩, a3, a4⟩ := I.cel x v e1 e2
    exact ⟨c, u, a1, ⟨o, k _ _ a3 ho, hd⟩, off_of gr a3 ho, a4.mono st.pre (List.prefix_refl _) k gr⟩
theorem rset_get {x : Str} {v : V} : ∀ {ρ ρ' : Rho}, rset ρ x v = some ρ' → ∀ y, rget ρ' y = if y = x then some v else rget ρ y
  | [], _, h, _ => nn h
  | (z, w) :: r, ρ', h, y => by
    unfold rset at h
    cases q : sq x z with
    | true =>
      rw [q] at h; cases h; cases sq_iff.mp q
      show (match sq y x with | true => some v | false => rget r y) = _
      by_cases e : y = x
      · rw [e, if_pos rfl, sq_iff.mpr rfl]
      · have : sq y x = false := Bool.eq_false_iff.mpr fun w => e (sq_iff.mp w)
        rw [if_neg e, this]
        show _ = (match sq y x with | true => w | false => rget r y)
        rw [this]
    | false =>
      rw [q] at h
      refine bindW h fun r' h1 h => ?_
      cases h
      show (match sq y z with | true => w | false => rget r' y) = _
      cases q2 : sq y z with
      | true => show w = if y = x then some v else (match sq y z with | true => w | false => rget r y); rw [q2, if_neg fun (e : y = x) => sq_ne q (e.symm.trans (sq_iff.mp q2))]
      | false => show rget r' y = if y = x then some v else (match sq y z with | true => w | false => rget r y); rw [q2]; exact rset_get h1 y
theorem plainScope (ok : FOk F sc) : (F.env.scope.kind == .class || (F.env.scope.kind == .module && F.env.locals != F.env.globals)) = false := by rw [ok.kind]; rfl
theorem store_at {x : Str} {v : V} {Q : Unit → Shared → Prop} (ok : FOk F sc) (h : rsetL sc ρ x v = some ρ') (I : Inv X F ρ σ m s.heap) (ru : RepV X F m s.heap u v)
    (hQ : ∀ s', Step F m m s s' → Inv X F ρ' σ m s'.heap → Q () s') : wpAny (model X.prog X.w) A (storeName F.env x u) Q E s := onOW h fun q h => by
  have kx := ok.loc x (isK_is q)
  obtain ⟨f, hf, _⟩ := I.loc
  refine wpAny_storeName_local kx hf (fun h' hn sb => ?_) (plainScope ok)
  have st := I.store (s' := { s with heap := h', toks := s.toks + 1 }) kx ru (rset_get h) ⟨_, _, rfl⟩ (fun g hg => ns_inj hg hf ▸ hn) sb
  exact hQ _ st.1 st.2
theorem name_is {e : Expr} {x : Str} (h : nameOf e = some x) : ∃ p, e = .Name x p := by
  cases e <;> first | exact nn h | (cases h; exact ⟨_, rfl⟩)
theorem bindAll_each {env : Env} : ∀ {es : List Expr} {ds : List D} {ρ ρ' : Rho}, bindAll sc es ds ρ = some ρ' → (assignEach es env).length = ds.length ∧ (assignEach es env).findIdx? (·.1) = none
  | [], [], _, _, _ => ⟨rfl, rfl⟩
  | [], _ :: _, _, _, h => nn h
  | _ :: _, [], _, _, h => nn h
  | e :: es, d :: ds, _, _, h => bindW h fun x hx h => bindW h fun ρ₁ h1 h2 => by
    obtain ⟨p, rfl⟩ := name_is hx
    obtain ⟨i1, i2⟩ := bindAll_each (env := env) h2
    refine ⟨congrArg Nat.succ i1, ?_⟩
    show ((false, assign _ env) :: assignEach es env).findIdx? (·.1) = none
    rw [List.findIdx?_cons, i2]; rfl
theorem bind_all (ok : FOk F sc) : ∀ {es : List Expr} {ds : List D} {us : List Value} {ρ ρ' : Rho} {s : Shared} {Q : Unit → Shared → Prop}, bindAll sc es ds ρ = some ρ' → Inv X F ρ σ m s.heap → Reps X m.M (NF F m) s.heap us ds →
    (∀ s', Step F m m s s' → Inv X F ρ' σ m s'.heap → Q () s') → wpAny (model X.prog X.w) A (assignInOrder ((assignEach es F.env).map (·.2)) us) Q E s
  | [], [], _, _, _, _, _, h, I, rs, hQ => by
    cases rs; cases h
    exact wpAny_pure (hQ _ I.same I)
  | [], _ :: _, _, _, _, _, _, h, _, _, _ => nn h
  | _ :: _, [], _, _, _, _, _, h, _, _, _ => nn h
  | e :: es, d :: ds, _, _, _, _, _, h, I, rs, hQ => bindW h fun x hx h => bindW h fun ρ₁ h1 h2 => by
    obtain @⟨u, us, rfl, r, rs⟩ := rs
    obtain ⟨p, rfl⟩ := name_is hx
    show wpAny _ A (do holding us (assign (.Name _ _) F.env u); assignInOrder ((assignEach es F.env).map (·.2)) us) _ E _
    exact wpAny_bind (wpAny_holding (wpAny_assign_Name (store_at ok h1 I (v := .dat d) r fun s' st I' => bind_all ok h2 I' (rs.step st) fun s'' st' I'' => hQ s'' (st.trans st') I'')))
theorem assign_at {t : Expr} {Q : Unit → Shared → Prop} (ok : FOk F sc) (hh : A.handled = none) (h : bindTo sc t d ρ = some ρ') (I : Inv X F ρ σ m s.heap) (r : Rep X m.M (NF F m) s.heap u d)
    (hQ : ∀ s', Step F m m s s' → Inv X F ρ' σ m s'.heap → Q () s') : wpAny (model X.prog X.w) A (assign t F.env u) Q E s := by
  cases t with
  | Name x p => exact wpAny_assign_Name (store_at ok h I (v := .dat d) r hQ)
  | Tuple es j p =>
    refine bindW h fun l hl h => ?_
    obtain ⟨e1, e2⟩ := bindAll_each (env := F.env) h
    have go : ∀ (us : List Value), Reps X m.M (NF F m) s.heap us l → ∀ h', Heap.ExtBut s.heap.objs.size s.heap h' → wpAny (model X.prog X.w) A (assignInOrder ((assignEach es F.env).map (·.2)) us) Q E { s with heap := h' } := fun us rs h' ex => by
      obtain ⟨st, I'⟩ := I.ext (s' := { s with heap := h' }) ⟨_, _, rfl⟩ fun b o e => ex b o (Nat.ne_of_lt (Heap.lt_size e)) e
      exact bind_all ok h I' (rs.step st) fun s'' st' I'' => hQ s'' (st.trans st') I''
    clear I h hQ
    cases d with
    | tup ds =>
      cases hl
      obtain @⟨a, vs, rfl, _, t, _, p⟩ := r
      exact wpAny_assign_Tuple hh t.tup (e1.trans p.length.symm) e2 fun h' ex => go vs p h' ex
    | lst ds =>
      cases hl
      obtain @⟨a, vs, rfl, _, t, _, p⟩ := r
      rw [arm_assign_Tuple]
      refine wpAny_bind (wpAny_standAt ?_)
      unfold unpack
      rw [show (assignEach es F.env).length = vs.toArray.size from e1.trans p.length.symm, e2]
      exact wpAny_bind (wpAny_holding (kun_itemsOf hh t fun h' ex => go vs p h' ex))
    | _ => exact nn hl
  | _ => exact nn h
end
end Mine
end
noncomputable section
namespace Mine
open PySem PySem.W PyProof.Rows PySem.Calls PySem.SeqAt
theorem kindIn_lookup : ∀ (l : List (Str × NameKind)) (x : Str), kindIn l x = l.lookup x
  | [], _ => rfl
  | (y, k) :: r, x => by
    show (match sq x y with | true => some k | false => kindIn r x) = _
    rw [List.lookup_cons, show (x == y) = sq x y by rw [Bool.eq_iff_iff, sq_iff, beq_iff_eq], kindIn_lookup r x]
    cases sq x y <;> rfl
theorem lookup_mem {α : Type} : ∀ {l : List (Str × α)} {x : Str} {k : α}, l.lookup x = some k → (x, k) ∈ l
  | (y, k') :: r, x, k, h => by
    rw [List.lookup_cons] at h
    cases q : x == y with
    | true => rw [q] at h; cases h; cases eq_of_beq q; exact List.mem_cons_self
    | false => rw [q] at h; exact List.mem_cons_of_mem _ (lookup_mem h)
theorem rget_offLoc : ∀ (ρ : Rho) {y : Str} {v : V}, rget (offLoc ρ) y = some v → rget ρ y = some v ∧ ∃ d, v = .dat d
  | [], _, _, h => nn h
  | (z, w) :: r, y, v, h => by
    have h : (match sq y z with | true => (match isLocV w with | true => none | false => w) | false => rget (offLoc r) y) = some v := h
    show (match sq y z with | true => w | false => rget r y) = some v ∧ _
    cases q : sq y z with
    | false => rw [q] at h; exact rget_offLoc r h
    | true =>
      rw [q] at h
      rcases w with _ | (d | i)
      · cases h
      · cases h; exact ⟨rfl, d, rfl⟩
      · cases h
theorem oddName_of {x : Str} (h : oddName x = false) : (x == ("__debug__" : Str)) = false ∧ (x == ("__classdict__" : Str)) = false :=
  ⟨beq_eq_false_iff_ne.mpr fun e => by subst e; exact absurd h (by decide +kernel), beq_eq_false_iff_ne.mpr fun e => by subst e; exact absurd h (by decide +kernel)⟩
noncomputable def clo (env : Env) : List (Str × NameKind) → List (Str × Addr) → List (Str × Addr)
  | [], cs => cs
  | (n, k) :: r, cs => clo env r (if (k == .free) = true then (n, (env.cells.lookup n).getD 0) :: cs else cs)
section
variable {env : Env}
theorem clo_is {scope : Scope} (hf : ∀ y, (y, NameKind.free) ∈ scope.names → ∃ c, env.cells.lookup y = some c) : closureFor scope env = pure (clo env scope.names []) := by
  have go : ∀ (names : List (Str × NameKind)) (cs : List (Str × Addr)), (∀ y, (y, NameKind.free) ∈ names → ∃ c, env.cells.lookup y = some c) →
      (forIn (m := Sem) names cs fun x r => match x with | (name, kind) => if (kind == .free) = true then (do let c ← cellOf env name; pure (ForInStep.yield ((name, c) :: r))) else pure (ForInStep.yield r)) = pure (clo env names cs) := by
    intro names
    induction names with
    | nil => intro cs _; rfl
    | cons p r ih =>
      obtain ⟨n, k⟩ := p
      intro cs hf
      have ih := fun cs => ih cs fun y hy => hf y (List.mem_cons_of_mem _ hy)
      rw [List.forIn_cons]
      show _ = pure (clo env r (if (k == .free) = true then (n, (env.cells.lookup n).getD 0) :: cs else cs))
      by_cases hk : (k == NameKind.free) = true
      · cases (eq_of_beq hk : k = NameKind.free)
        obtain ⟨c, e⟩ := hf n List.mem_cons_self
        rw [if_pos hk, e]
        simp only [if_pos hk, cellOf, e]
        exact ih _
      · rw [if_neg hk]
        simp only [if_neg hk]
        exact ih cs
  exact (congrArg (fun m : Sem (List (Str × Addr)) => m >>= fun cs => pure cs) (go scope.names [] hf) : _)
theorem clo_look : ∀ {names : List (Str × NameKind)} {cs : List (Str × Addr)} {y : Str}, (∀ y, (y, NameKind.free) ∈ names → ∃ c, env.cells.lookup y = some c) → (∀ y c, cs.lookup y = some c → env.cells.lookup y = some c) → (y, NameKind.free) ∈ names ∨ (∃ c, cs.lookup y = some c) → (clo env names cs).lookup y = env.cells.lookup y
  | [], cs, y, _, hc, h => by
    rcases h with h | ⟨c, h⟩
    · cases h
    · exact h.trans (hc y c h).symm
  | (n, k) :: r, cs, y, hf, hc, h => by
    have hf' : ∀ y, (y, NameKind.free) ∈ r → ∃ c, env.cells.lookup y = some c := fun y hy => hf y (List.mem_cons_of_mem _ hy)
    by_cases hk : (k == NameKind.free) = true
    · cases (eq_of_beq hk : k = NameKind.free)
      obtain ⟨c, e⟩ := hf n List.mem_cons_self
      show (clo env r (if _ then (n, (env.cells.lookup n).getD 0) :: cs else cs)).lookup y = _
      rw [if_pos hk, e]
      refine clo_look hf' (fun z c' h => ?_) ?_
      · rw [List.lookup_cons] at h
        cases q : z == n with
        | true => rw [q] at h; cases eq_of_beq q; exact e.trans h
        | false => rw [q] at h; exact hc z c' h
      · rw [List.lookup_cons]
        cases q : y == n with
        | true => exact .inr ⟨c, rfl⟩
        | false => exact h.imp (fun h => (List.mem_cons.mp h).elim (fun w => by cases w; rw [beq_self_eq_true] at q; cases q) id) id
    · show (clo env r (if _ then _ else cs)).lookup y = _
      rw [if_neg hk]
      exact clo_look hf' hc (h.imp (fun h => (List.mem_cons.mp h).elim (fun w => by cases w; exact absurd rfl hk) id) id)
theorem look_rel : ∀ (names : List (Str × NameKind)) (x : Str), (names.map fun (n, k) => if (k == .free && env.scope.kind == .function && env.kindOf n == some .cell) then (n, NameKind.cell) else (n, k)).lookup x =
    (names.lookup x).map fun k => if (k == .free && env.scope.kind == .function && env.kindOf x == some .cell) then NameKind.cell else k
  | [], _ => rfl
  | (n, k) :: r, x => by
    rw [List.map_cons]
    show List.lookup x ((if _ then (n, NameKind.cell) else (n, k)) :: _) = _
    rw [show (if (k == NameKind.free && env.scope.kind == .function && env.kindOf n == some .cell) = true then (n, NameKind.cell) else (n, k)) = (n, if (k == NameKind.free && env.scope.kind == .function && env.kindOf n == some .cell) = true then NameKind.cell else k) by split <;> rfl, List.lookup_cons, List.lookup_cons]
    cases q : x == n with
    | true => cases eq_of_beq q; rfl
    | false => exact look_rel r x
end
structure COk (sc sc2 : Scope) (x : Str) (ρ : Rho) : Prop where
  kind : sc2.kind = .function
  var : kindIn sc2.names x = some .local
  odd : ∀ y k, (y, k) ∈ sc2.names → oddName y = false
  all : ∀ y k, (y, k) ∈ sc2.names → (k = .local ∧ kindIn sc2.names y = some .local ∧ (y = x ∨ rget ρ y = none)) ∨ (k = .free ∧ (∃ v, rget ρ y = some v) ∧ (kindIn sc.names y = some .cell ∨ kindIn sc.names y = some .free) ∧ kindIn sc2.names y = some .free) ∨ k = .globalImplicit
section
variable {X : Wd} {G : Cfg} {k n : Nat} {A : Around} {sc sc2 : Scope} {F F' : Fm} {C : CRel} {R : Out} {ρ ρ' ρ₂ : Rho} {σ σ' : St} {m m' : Ms} {s s' s'' : Shared} {u : Value} {d : D} {E : Value → Shared → Prop} {h h' : Heap} {a : Addr} {x : Str}
theorem compOk_of (h : compOk sc sc2 x ρ = true) : COk sc sc2 x ρ := by
  obtain ⟨h, h3⟩ := Bool.and_eq_true_iff.mp h
  obtain ⟨h1, h2⟩ := Bool.and_eq_true_iff.mp h
  have all := fun y k (hm : (y, k) ∈ sc2.names) => Bool.and_eq_true_iff.mp (List.all_eq_true.mp h3 _ hm)
  refine ⟨?_, isK_is h2, fun y k hm => (Bool.not_eq_true' _).mp (all y k hm).1, fun y k hm => ?_⟩
  · unfold isFun at h1
    cases q : sc2.kind <;> rw [q] at h1 <;> first | rfl | exact nf h1
  · have a2 := (all y k hm).2
    clear all hm h h1 h2 h3
    cases k with
    | «local» =>
      obtain ⟨b1, b2⟩ := Bool.and_eq_true_iff.mp a2
      exact .inl ⟨rfl, isK_is b1, (Bool.or_eq_true_iff.mp b2).imp sq_iff.mp Option.isNone_iff_eq_none.mp⟩
    | free =>
      obtain ⟨b1, b3⟩ := Bool.and_eq_true_iff.mp a2
      obtain ⟨b1, b2⟩ := Bool.and_eq_true_iff.mp b1
      exact .inr (.inl ⟨rfl, Option.isSome_iff_exists.mp b1, (Bool.or_eq_true_iff.mp b2).imp isK_is isK_is, isK_is b3⟩)
    | globalImplicit => exact .inr (.inr rfl)
    | _ => exact nf a2
noncomputable def Fm.comp (F : Fm) (m : Ms) (sc2 : Scope) (It Dl C : Addr) : Fm := ⟨compEnvC sc2 (clo F.env sc2.names []) C F.env, fun a => F.hid a ∨ a = F.env.locals ∨ a ∈ m.K ∨ a = It ∨ a = Dl⟩
variable {It Dl Cl : Addr}
theorem kindOf_comp (y : Str) : (F.comp m sc2 It Dl Cl).env.kindOf y = (kindIn sc2.names y).map fun k => if (k == .free && F.env.scope.kind == .function && F.env.kindOf y == some .cell) then NameKind.cell else k := by
  rw [kindIn_lookup]; exact look_rel sc2.names y
theorem COk.fok (c : COk sc sc2 x ρ) (ok : FOk F sc) : FOk (F.comp m sc2 It Dl Cl) sc2 := by
  have mem := fun {y k} (e : kindIn sc2.names y = some k) => lookup_mem (kindIn_lookup _ _ ▸ e : sc2.names.lookup y = some k)
  refine ⟨fun y k e => oddName_of (c.odd y k (mem e)), c.kind, ok.glob, ok.bui, fun y e => by rw [kindOf_comp, e]; rfl, fun y e => ?_, fun y e => ?_, fun y e => by rw [kindOf_comp, e]; rfl⟩
  · rcases c.all y _ (mem e) with ⟨q, _⟩ | ⟨q, _⟩ | q <;> cases q
  · rw [kindOf_comp, e, Option.map_some]
    split
    · exact .inl rfl
    · exact .inr rfl
theorem Inv.comp (I : Inv X F ρ σ m h) (ok : FOk F sc) (c : COk sc sc2 x ρ) (kk : ∀ b o, h.get? b = some o → h'.get? b = some o) (f1 : h.get? It = none) (f2 : h.get? Dl = none) (f3 : h.get? Cl = none) (d1 : Cl ≠ It) (d2 : Cl ≠ Dl) (a1 : ∃ o, h'.get? It = some o) (a2 : ∃ o, h'.get? Dl = some o) {f : Str → Option Value} (ns : h'.Ns Cl f) :
    Inv X (F.comp m sc2 It Dl Cl) ((x, none) :: offLoc ρ) ⟨σ.pi, []⟩ ⟨m.M, []⟩ h' := by
  have rel : ∀ {y v}, rget ((x, none) :: offLoc ρ) y = some v → y ≠ x ∧ rget ρ y = some v ∧ ∃ d, v = .dat d := fun {y v} e => by
    have e : (match sq y x with | true => none | false => rget (offLoc ρ) y) = some v := e
    cases q : sq y x with
    | true => rw [q] at e; cases e
    | false => rw [q] at e; exact ⟨sq_ne q, rget_offLoc ρ e⟩
  have mem := fun {y k} (e : kindIn sc2.names y = some k) => c.all y k (lookup_mem (kindIn_lookup _ _ ▸ e))
  refine I.enter (Ex := fun b => b = It ∨ b = Dl) (fun b => Iff.rfl) kk (fun b q => q.elim (fun q => q ▸ ⟨f1, a1⟩) fun q => q ▸ ⟨f2, a2⟩) f3 (fun q => q.elim d1 d2) (fun _ => ⟨f, ns, fun y v e1 e2 => ?_⟩) fun gr y v e1 e2 => ?_
  · obtain ⟨n1, n2, _⟩ := rel e1
    rw [kindOf_comp] at e2
    obtain ⟨k, hk, hk2⟩ := Option.map_eq_some_iff.mp e2
    rcases mem hk with ⟨_, _, q⟩ | ⟨rfl, _⟩ | rfl
    · exact q.elim (fun q => absurd q n1) fun q => nos q n2
    · split at hk2 <;> cases hk2
    · cases hk2
  · obtain ⟨n1, n2, d, rfl⟩ := rel e1
    rw [kindOf_comp] at e2
    cases hk : kindIn sc2.names y with
    | none => rw [hk] at e2; rcases e2 with e2 | e2 <;> cases e2
    | some k =>
      rw [hk] at e2
      rcases mem hk with ⟨_, _, q⟩ | ⟨rfl, _, q, _⟩ | rfl
      · exact q.elim (fun q => absurd q n1) fun q => nos q n2
      · obtain ⟨ca, u, b1, ⟨o, b2, b3⟩, b4, b5⟩ := I.cel y _ n2 (q.elim (ok.cel y) (ok.fre y))
        refine ⟨ca, u, ?_, ⟨o, kk _ _ b2, b3⟩, off_of gr b4 b2, Rep.mono (List.prefix_refl _) (fun b o _ e => kk b o e) gr b5⟩
        show (clo F.env sc2.names []).lookup y = some ca
        rw [clo_look (fun z hz => ?_) (fun z c' w => by cases w) (.inl (lookup_mem (kindIn_lookup _ _ ▸ hk)))]
        · exact b1
        · rcases c.all z _ hz with ⟨q, _⟩ | ⟨_, ⟨v, hv⟩, q, _⟩ | q
          · cases q
          · obtain ⟨ca, u, b1, _⟩ := I.cel z v hv (q.elim (ok.cel z) (ok.fre z)); exact ⟨ca, b1⟩
          · cases q
      · rcases e2 with e2 | e2 <;> cases e2
end
end Mine
end
noncomputable section
namespace Mine
open PySem PySem.W PyProof.Rows PySem.Calls PySem.SeqAt
noncomputable def ItKind (h : Heap) (a : Addr) : Prop := ∃ o n, h.get? a = some o ∧ o.cls = .type n ∧ (["enumerate", "zip", "dict_itemiterator", "dict_reverseitemiterator", "odict_iterator", "itertools.zip_longest", "itertools.pairwise"].contains n) = false
structure Src (X : Wd) (A : Around) (F : Fm) (m : Ms) (s : Shared) (l : List D) (o : Obj) (P : Nat → Value → Prop) (S : Nat → Heap → Prop) (fp : List Addr) : Prop where
  W : Walks X.prog X.w A s.heap.objs.size fp [s.heap.objs.size] l.length P S
  st0 : S 0 (s.heap.push o)
  foot : ∀ b ∈ fp, b = s.heap.objs.size ∨ (¬ NF F m b ∧ ∃ o, s.heap.get? b = some o)
  item : ∀ j v d, l[j]? = some d → P j v → Rep X m.M (NF F m) s.heap v d
  it : ∀ j h', S j h' → ItKind h' s.heap.objs.size
section
variable {X : Wd} {G : Cfg} {k n : Nat} {A : Around} {sc sc2 : Scope} {F F' : Fm} {C : CRel} {R : Out} {ρ ρ' ρ₂ : Rho} {σ σ' : St} {m m' : Ms} {s s' s'' : Shared} {u : Value} {d : D} {E : Value → Shared → Prop} {h h' : Heap} {a : Addr} {x : Str} {l : List D}
theorem owned_go {t : Expr} {v : Value} {Q : Unit → Shared → Prop} (ik : ItKind s.heap a) (hQ : Q () s) : wpAny (model X.prog X.w) A (letOwnedTupleGo t (.ref a) v) Q E s := by
  have tup : ∀ es j p, wpAny (model X.prog X.w) A (letOwnedTupleGo (.Tuple es j p) (.ref a) v) Q E s := fun es j p => by
    obtain ⟨o, n, ho, hc, hn⟩ := ik
    cases v with
    | ref b =>
      refine wpAny_bind (wpAny_load ho ?_)
      obtain ⟨oc, odi, oda, osl⟩ := o
      cases hc
      cases oda with
      | fields vs =>
        show wpAny _ A (if (_ && _) = true then _ else _) Q E s
        rw [hn]
        exact wpAny_pure hQ
      | _ => exact wpAny_pure hQ
    | _ => exact wpAny_pure hQ
  cases t with
  | Tuple es j p => exact tup es j p
  | List es p => exact tup es 0 p
  | _ => exact wpAny_pure hQ
theorem range_size {n : Int} : Builtin.Range.rangeSize 0 n 1 = (n.toNat : Int) := by
  unfold Builtin.Range.rangeSize
  rw [if_pos (by decide)]
  split
  · rw [Int.ediv_one]; omega
  · omega
theorem range_small {n : Int} (hb : n.natAbs < 1000000000) : Builtin.Range.small 0 n 1 = true := by
  have fits : ∀ m : Int, m.natAbs < 2000000000 → Builtin.Range.rangeFitsLong m = true := fun m hm => by
    unfold Builtin.Range.rangeFitsLong
    simp; omega
  unfold Builtin.Range.small
  rw [range_size, fits 0 (by decide), fits n (by omega), fits 1 (by decide), fits _ (by omega), if_pos (by decide), fits _ (by omega)]
  simp
theorem src_at {Q : Value → Shared → Prop} (hh : A.handled = none) (r : Rep X m.M (NF F m) s.heap u d) (q : itemsOf d = some l)
    (hQ : ∀ o P S fp, Src X A F m s l o P S fp → (s.heap.push o).get? s.heap.objs.size = some o → Q (.ref s.heap.objs.size) { s with heap := s.heap.push o }) : wpAny (model X.prog X.w) A (pyIter u) Q E s := by
  cases d with
  | tup ds =>
    cases q
    obtain @⟨a, vs, rfl, n1, t, z, p⟩ := r
    have t0 := let ⟨n, e⟩ := t; (⟨_, e⟩ : ∃ o, s.heap.get? a = some o)
    have W := Walks.tuple (prog := X.prog) (w := X.w) (A := A) hh s.heap.objs.size a (let ⟨_, e⟩ := t0; Nat.ne_of_lt (Heap.lt_size e)) vs.toArray
    rw [show vs.toArray.size = l.length from p.length] at W
    exact wpAny_pyIter_tuple t.tup (hQ _ _ _ _ ⟨W, ⟨⟨_, Heap.get?_push_size _ rfl, rfl, rfl⟩, t.tup.keeps (push_ext _ _)⟩, fun b hb => (List.mem_cons.mp hb).imp id fun hb => (List.mem_singleton.mp hb : b = a).symm ▸ ⟨n1, t0⟩,
      fun j v d e hp => let ⟨_, e', r⟩ := p.get e; Option.some.inj (e'.symm.trans (by rw [← List.getElem?_toArray]; exact hp)) ▸ r, fun j h' st => let ⟨⟨o, ho, hc, _⟩, _⟩ := st; ⟨o, _, ho, hc, by decide⟩⟩ (Heap.get?_push_size _ rfl))
  | lst ds =>
    cases q
    obtain @⟨a, vs, rfl, n1, t, z, p⟩ := r
    have t0 := let ⟨o, e, _⟩ := t; (⟨o, e⟩ : ∃ o, s.heap.get? a = some o)
    have W := Walks.list (prog := X.prog) (w := X.w) (A := A) hh s.heap.objs.size a (let ⟨_, e⟩ := t0; Nat.ne_of_lt (Heap.lt_size e)) vs.toArray
    rw [show vs.toArray.size = l.length from p.length] at W
    exact wpAny_pyIter_list t (hQ _ _ _ _ ⟨W, ⟨⟨_, Heap.get?_push_size _ rfl, rfl, rfl⟩, let ⟨o, e, r⟩ := t; ⟨o, push_ext _ _ _ _ e, r⟩⟩, fun b hb => (List.mem_cons.mp hb).imp id fun hb => (List.mem_singleton.mp hb : b = a).symm ▸ ⟨n1, t0⟩,
      fun j v d e hp => let ⟨_, e', r⟩ := p.get e; Option.some.inj (e'.symm.trans (by rw [← List.getElem?_toArray]; exact hp)) ▸ r, fun j h' st => let ⟨⟨o, ho, hc, _⟩, _⟩ := st; ⟨o, _, ho, hc, by decide⟩⟩ (Heap.get?_push_size _ rfl))
  | rng n =>
    cases q
    obtain @⟨a, t, u, w, rfl, n1, hr, hs⟩ := r
    refine wpAny_pyIter_range hr (range_small (Nat.blt_eq.mp hs)) ?_
    have W := Walks.range (prog := X.prog) (w := X.w) (A := A) hh s.heap.objs.size 0 1 n.toNat
    have hz : n.toNat = ((List.range n.toNat).map fun i => D.int (.ofNat i)).length := by rw [List.length_map, List.length_range]
    rw [hz] at W
    refine hQ _ _ _ _ ⟨W, ?_, fun b hb => .inl (List.mem_singleton.mp hb), fun j v d e hp => ?_, fun j h' st => ⟨_, _, st, rfl, by decide⟩⟩ (Heap.get?_push_size _ rfl)
    · have e : Builtin.Range.rangeSize 0 n 1 = ((((List.range n.toNat).map fun i => D.int (.ofNat i)).length : Nat) : Int) - ((0 : Nat) : Int) := by rw [← hz, range_size]; exact (Int.sub_zero _).symm
      rw [e]
      exact Heap.get?_push_size _ rfl
    · obtain ⟨t, rfl⟩ := hp
      rw [List.getElem?_map] at e
      obtain ⟨i, e', rfl⟩ := Option.map_eq_some_iff.mp e
      obtain ⟨lt, e'⟩ := List.getElem?_eq_some_iff.mp e'
      rw [List.getElem_range] at e'
      subst e'
      rw [Int.mul_one, Int.zero_add]
      exact rInt _ _
  | _ => exact nn q
theorem Step.it (st : Step F m m' s s') (e : s.heap.get? a = none) (n : ∀ b, fl m'.M b ∨ b ∈ m'.K → b ≠ a) (sm : Same s' s'') (kk : ∀ b o, b ≠ a → s'.heap.get? b = some o → s''.heap.get? b = some o) : Step F m m' s s'' :=
  ⟨st.same.trans sm, st.pre, st.preK, st.new, fun b q => let ⟨o, e⟩ := st.there b q; ⟨o, kk b o (n b q) e⟩, fun b o g n1 n2 => kk b o (fun w => nos e (w ▸ g)) (st.kept b o g n1 n2), fun b o g => let ⟨o', g'⟩ := st.alive b o g; ⟨o', kk b o' (fun w => nos e (w ▸ g)) g'⟩⟩
theorem drop_cons {α : Type} {l : List α} {i : Nat} {d : α} {r : List α} (e : l.drop i = d :: r) : i < l.length ∧ l[i]? = some d ∧ l.drop (i + 1) = r := by
  have h : l[i]? = some d := by rw [← Nat.add_zero i, ← List.getElem?_drop, e]; rfl
  exact ⟨(List.getElem?_eq_some_iff.mp h).1, h, by rw [← List.drop_drop, e]; rfl⟩
end
end Mine
end
noncomputable section
namespace Mine
open PySem PySem.W PyProof.Rows PySem.Calls PySem.SeqAt
abbrev lstO (ys : List Value) : Obj := { cls := .type "list", data := .seq ys.toArray ys.length }
theorem lstO_snoc (ys : List Value) (y : Value) : ({ cls := .type "list", data := .seq (ys.toArray.push y) (ys.length + 1) } : Obj) = lstO (ys ++ [y]) := by
  show ({ cls := .type "list", data := .seq (ys.toArray.push y) (ys.length + 1) } : Obj) = { cls := .type "list", data := .seq (ys ++ [y]).toArray (ys ++ [y]).length }
  rw [List.length_append, List.length_singleton, List.push_toArray]
theorem no_fold {e : Expr} {env : Env} (h : okE e = true) (x : Value) : foldedSetIterable e env x = pure x := by
  cases e <;> first | rfl | exact nf h
theorem ne_of_none {h : Heap} {a b : Addr} {o : Obj} (e : h.get? a = none) (q : h.get? b = some o) : a ≠ b := fun w => nos e (w ▸ q)
section
variable {X : Wd} {G : Cfg} {k n : Nat} {A : Around} {sc sc2 : Scope} {F F' : Fm} {C : CRel} {R : Out} {ρ ρ' ρ₂ : Rho} {σ σ' σ₁ : St} {m m' m₁ : Ms} {s s' s'' s₁ : Shared} {u : Value} {d : D} {h h' : Heap} {a : Addr} {x : Str} {l : List D} {κ : V → St → Tr} {Q : Value → Shared → Prop}
theorem noE {α : Type} {M : Model} {p : Sem α} {Q : α → Shared → Prop} {E : Value → Shared → Prop} (h : wpAny M A p Q NoE s) : wpAny M A p Q E s := wpAny_mono h (fun _ _ q => q) fun _ _ f => f.elim
theorem Reps.off {vs : List Value} {ds : List D} (ha : F.hid a) (kk : ∀ b o, b ≠ a → h.get? b = some o → h'.get? b = some o) (r : Reps X m.M (NF F m) h vs ds) : Reps X m.M (NF F m) h' vs ds := r.mono (List.prefix_refl _) (fun b o n e => kk b o (fun w => n (.inl (w ▸ ha))) e) fun _ q => .inl q
theorem kk_of {It : Addr} (kk : ∀ b o, b ∉ [It] → h.get? b = some o → h'.get? b = some o) : ∀ b o, b ≠ It → h.get? b = some o → h'.get? b = some o := fun b o n e => kk b o (fun w => n (List.mem_singleton.mp w)) e
inductive CI (X : Wd) (G : Cfg) (k : Nat) (sc2 : Scope) (FC : Fm) (n : Nat) (m₁ : Ms) (s₁ : Shared) (l : List D) (S : Nat → Heap → Prop) (elt : Expr) (x : Str) (ρ : Rho) (δ : List D → St → Tr) (R : Out) (Dl : Addr) : Nat → Shared → Prop
  | mk {i rest m σ o ys ds s} : l.drop i = rest → Step FC ⟨m₁.M, []⟩ m s₁ s → Inv X FC ((x, o) :: offLoc ρ) σ m s.heap → s.heap.get? Dl = some (lstO ys) → Reps X m.M (NF FC m) s.heap ys ds → ds.length = i → i ≤ l.length → S i s.heap →
    Run (CallOk X k) (mapC (fun d σ k => cE G n sc2 elt ((x, some (.dat d)) :: offLoc ρ) σ (onD k)) rest σ fun ds2 σ' => δ (ds ++ ds2) σ') R → CI X G k sc2 FC n m₁ s₁ l S elt x ρ δ R Dl (rest.length + 1) s
theorem comp_loop {elt : Expr} {px pos : Pos} {iter : Expr} {Dl : Addr} {o : Obj} {P S fp} {Rr : Result → Shared → Prop} {FC : Fm} {δ : List D → St → Tr} (S2 : SE X G k A sc2 FC n) (ok2 : FOk FC sc2) (hv : kindIn sc2.names x = some .local)
    (hI : FC.hid s₁.heap.objs.size) (hDh : FC.hid Dl) (gr : Grown (NF F m₁) (NF FC ⟨m₁.M, []⟩) s₁.heap) (src : Src X A F m₁ s₁ l o P S fp) (hz : l.length ≤ sizeLine) (fD : s₁.heap.get? Dl = none) (fC : s₁.heap.get? FC.env.locals = none) (d1 : FC.env.locals ≠ s₁.heap.objs.size) (d3 : Dl ≠ s₁.heap.objs.size) (I0 : Inv X FC ((x, none) :: offLoc ρ) ⟨σ₁.pi, []⟩ ⟨m₁.M, []⟩ s.heap)
    (sm : Same s₁ s) (kk0 : ∀ b o, s₁.heap.get? b = some o → s.heap.get? b = some o) (hD : s.heap.get? Dl = some (lstO [])) (st0 : S 0 s.heap) (h : Run (CallOk X k) (mapC (fun d σ k => cE G n sc2 elt ((x, some (.dat d)) :: offLoc ρ) σ (onD k)) l ⟨σ₁.pi, []⟩ δ) R)
    (hQ : ∀ ys ds σ' o m' s' s'', Step FC ⟨m₁.M, []⟩ m' s₁ s' → Inv X FC ((x, o) :: offLoc ρ) σ' m' s'.heap → s'.heap.get? Dl = some (lstO ys) → ds.length = l.length → Reps X m'.M (NF FC m') s'.heap ys ds → Run (CallOk X k) (δ ds σ') R → Same s' s'' → (∀ b o, b ≠ s₁.heap.objs.size → s'.heap.get? b = some o → s''.heap.get? b = some o) → Rr (.ok .next) s'') :
    codeAny (model X.prog X.w) A (.compLoop (.ListComp elt [⟨.Name x px, iter, [], 0⟩] sc2 pos) 0 (.ref s₁.heap.objs.size) (.ref Dl) FC.env) Rr s := by
  have fI := fresh_none s₁.heap
  refine codeAny_compLoop_list (CI X G k sc2 FC n m₁ s₁ l S elt x ρ δ R Dl) ?_ (l.length + 1)
    (.mk (i := 0) (ds := []) rfl ⟨sm, List.prefix_refl _, List.prefix_refl _, fun _ q => .inl q, I0.there, fun b o e _ _ => kk0 b o e, fun b o e => ⟨o, kk0 b o e⟩⟩ I0 hD rfl rfl (Nat.zero_le _) st0 h) fun v => rfl
  rintro _ s' (@⟨i, rest, m'', σ'', o, ys, ds1, _, hr, st, I, hD, rs, hi, hl, hst, h⟩)
  cases rest with
  | nil =>
    have hl : i = l.length := Nat.le_antisymm hl (List.drop_eq_nil_iff.mp hr)
    refine src.W.done s' _ _ (hl ▸ hst) fun h3 tk3 kk3 => ?_
    exact hQ ys ds1 σ'' o m'' s' { s' with heap := h3, toks := tk3 } st I hD (hi.trans hl) rs (by have h : Run _ (δ (ds1 ++ []) σ'') R := h; rw [List.append_nil] at h; exact h) ⟨_, _, rfl⟩ (kk_of kk3)
  | cons dv r =>
    obtain ⟨lt, hdv, hr'⟩ := drop_cons hr
    refine src.W.item i s' _ _ lt hst fun v h3 tk3 hp hst3 kk3 => ?_
    have kk3 := kk_of kk3
    have I3 := I.keepH hI kk3 (let ⟨o, _, e, _⟩ := src.it _ _ hst3; ⟨o, e⟩)
    have st3 := st.it (s'' := { s' with heap := h3, toks := tk3 }) fI (fun b q w => (I.mhid b q).1 (w ▸ hI)) ⟨_, _, rfl⟩ kk3
    have hD3 : h3.get? Dl = some (lstO ys) := kk3 _ _ d3 hD
    have gr3 : Grown (NF F m₁) (NF FC m'') s₁.heap := fun b q => (st3.grown b q).elim (gr b) .inr
    have rv : Rep X m''.M (NF FC m'') h3 v dv := (src.item i v dv hdv hp).mono st3.pre (fun b o nn e => st3.keptN b o (fun q => (gr b q).elim nn fun w => nos w e) e) gr3
    refine wpAny_assign_Name (store_at ok2 (ρ' := (x, some (.dat dv)) :: offLoc ρ) (v := .dat dv) ?_ I3 rv fun s4 st4 I4 => ?_)
    · unfold rsetL
      rw [hv]
      show (match sq x x with | true => _ | false => _) = _
      rw [sq_iff.mpr rfl]
    refine noE (S2 I4 h (KD fun y dr σ5 m5 s5 st5 I5 r5 h => ?_))
    have stA := st4.trans st5
    have hD5 : s5.heap.get? Dl = some (lstO ys) := stA.kept Dl _ hD3 (fun w => I.lhid (w ▸ hDh)) fun w => (I.mhid _ w).1 hDh
    refine PyProof.Rows.append_at (hsz := by show ys.length ≤ sizeLine; rw [rs.length, hi]; exact Nat.le_trans (Nat.le_of_lt lt) hz) hD5 fun h6 hs6 hD6 => ?_
    rw [lstO_snoc] at hD6
    have kk6 : ∀ b o, b ≠ Dl → s5.heap.get? b = some o → h6.get? b = some o := fun b o n e => by rw [hs6.2 b n]; exact e
    have nb : ∀ b, fl m5.M b ∨ b ∈ m5.K → b ≠ Dl := fun b q w => (I5.mhid b q).1 (w ▸ hDh)
    refine ⟨r.length + 1, Nat.lt_succ_self _, .mk (i := i + 1) (ys := ys ++ [y]) (ds := ds1 ++ [dr]) hr' ((st3.trans stA).it fD nb ⟨_, _, rfl⟩ kk6) (I5.keepH hDh kk6 ⟨_, hD6⟩) hD6 ?_ (by rw [List.length_append, hi]; rfl) lt ?_ ?_⟩
    · exact Reps.off hDh kk6 ((Reps.step (s := { s' with heap := h3, toks := tk3 }) (Reps.off hI kk3 rs) stA).append (Reps.one r5))
    · refine src.W.frame _ _ _ hst3 fun b hb o e => ?_
      have key : b ≠ FC.env.locals ∧ b ≠ Dl ∧ ¬ (fl m''.M b ∨ b ∈ m''.K) := by
        rcases src.foot b hb with w | ⟨nb, o', eb⟩
        · exact ⟨fun q => d1 (q.symm.trans w), fun q => d3 (q.symm.trans w), fun q => (I.mhid b q).1 (w ▸ hI)⟩
        · exact ⟨fun w => nos fC (w ▸ eb), fun w => nos fD (w ▸ eb), fun q => (gr3 b (.inr (.inr q))).elim nb fun w => nos w eb⟩
      exact kk6 b o key.2.1 (stA.kept b o e key.1 key.2.2)
    · simp only [List.append_assoc]; exact h
end
end Mine
end
noncomputable section
namespace Mine
open PySem PySem.W PyProof.Rows PySem.Calls PySem.SeqAt
section
variable {X : Wd} {G : Cfg} {k n : Nat} {A : Around} {sc sc2 : Scope} {F F' : Fm} {C : CRel} {R : Out} {ρ ρ' ρ₂ : Rho} {σ σ' σ₁ : St} {m m' m₁ : Ms} {s s' s'' s₁ : Shared} {u : Value} {d : D} {h h' : Heap} {a : Addr} {x : Str} {l : List D} {κ : V → St → Tr} {Q : Value → Shared → Prop}
theorem comp_core (S2 : ∀ F', FOk F' sc2 → SE X G k A sc2 F' n) (S : SE X G k A sc F n) {elt iter : Expr} {px pos pos' : Pos} {use : Option (Value → Sem Unit)} {Q : Value → Shared → Prop} (hok : compOk sc sc2 x ρ = true) (oi : okE iter = true) (ok : FOk F sc) (hh : A.handled = none) (I : Inv X F ρ σ m s.heap)
    (h : Run (CallOk X k) (cE G n sc iter ρ σ (onD fun it σ => lift (itemsOf it) fun l => onB (chk l.length) (mapC (fun d σ k => cE G n sc2 elt ((x, some (.dat d)) :: offLoc ρ) σ (onD k)) l ⟨σ.pi, []⟩ fun ds σ' => κ (.dat (.lst ds)) ⟨σ'.pi, σ.lc⟩))) R)
    (hQ : ∀ Dl Cl ds σ' m' s', Step F m m' s s' → Inv X (F.hide Cl) ρ σ' m' s'.heap → ¬ F.hid Cl → (∀ b o, s.heap.get? b = some o → b ≠ Cl) → Rep X m'.M (NF (F.hide Cl) m') s'.heap (.ref Dl) (.lst ds) → (∃ f, s'.heap.Ns Cl f) → Run (CallOk X k) (κ (.dat (.lst ds)) σ') R → compPost (model X.prog X.w) A NoE use Q (.ref Dl) Cl (.ok .next) s') :
    wpAny (model X.prog X.w) A (comprehension (.ListComp elt [⟨.Name x px, iter, [], 0⟩] sc2 pos) sc2 F.env pos' (newList []) false (eval iter F.env) use) Q NoE s := by
  have c := compOk_of hok
  have cells : ∀ y, (y, NameKind.free) ∈ sc2.names → ∃ a, F.env.cells.lookup y = some a := fun y hy => by
    rcases c.all y _ hy with ⟨q, _⟩ | ⟨_, ⟨v, hv⟩, q, _⟩ | q
    · cases q
    · obtain ⟨ca, u, b1, _⟩ := I.cel y v hv (q.elim (ok.cel y) (ok.fre y)); exact ⟨ca, b1⟩
    · cases q
  have hcell : ∀ y ∈ sc2.names, y.2 ≠ .cell := fun y hy e => by
    rcases c.all y.1 y.2 hy with ⟨q, _⟩ | ⟨q, _⟩ | q <;> (rw [q] at e; cases e)
  have hnames : ∀ y ∈ sc2.names, y.2 = .local → sc2.names.lookup y.1 = some .local := fun y hy e => by
    rcases c.all y.1 y.2 hy with ⟨_, q, _⟩ | ⟨q, _⟩ | q
    · exact kindIn_lookup _ _ ▸ q
    · rw [q] at e; cases e
    · rw [q] at e; cases e
  refine wpAny_comprehension_free (g := ⟨.Name x px, iter, [], 0⟩) (gs := []) rfl (fun v => no_fold oi v) (clo_is cells) c.kind hnames (S I h (KD fun u d σ₁ m₁ s₁ st1 I1 r1 h => liftW h fun l q h => onBW h fun hz hrun => src_at hh r1 q fun ob P W fp src hnew => ?_))
  clear hnames cells hok
  have ex1 : ∀ b o, s₁.heap.get? b = some o → (s₁.heap.push ob).get? b = some o := push_ext _ _
  refine wpAny_newObj_type (wpAny_newFunctionEnv hcell (by intro y hy; cases hy) (fun h₁ hns₁ hsb₁ => ?_) c.kind)
  dsimp only at hns₁ hsb₁ ⊢
  have e2 := push_ext (s₁.heap.push ob) { cls := .type "list", data := .seq #[] }
  have nD : ((s₁.heap.push ob).push { cls := .type "list", data := .seq #[] }).get? (s₁.heap.push ob).objs.size = some (lstO []) := Heap.get?_push_size _ rfl
  have fD1 := fresh_none (s₁.heap.push ob)
  have fC2 := fresh_none ((s₁.heap.push ob).push { cls := .type "list", data := .seq #[] })
  generalize hD : (s₁.heap.push ob).objs.size = Dl at hns₁ hsb₁ nD fD1 ⊢
  generalize hC : ((s₁.heap.push ob).push { cls := .type "list", data := .seq #[] }).objs.size = Cl at hns₁ hsb₁ fC2 ⊢
  have e3 : ∀ b o, ((s₁.heap.push ob).push { cls := .type "list", data := .seq #[] }).get? b = some o → h₁.get? b = some o := fun b o e => hsb₁.extBut b o (fun w => nos fC2 (w ▸ e)) (push_ext _ _ b o e)
  have none_of : ∀ {b h}, (∀ o, s₁.heap.get? b = some o → Heap.get? h b = some o) → h.get? b = none → s₁.heap.get? b = none := fun {b h} k e => by
    cases w : s₁.heap.get? b with
    | none => rfl
    | some o => exact nos e (k o w)
  have d2 : Cl ≠ Dl := ne_of_none fC2 nD
  have d1 : Cl ≠ s₁.heap.objs.size := ne_of_none fC2 (e2 _ _ hnew)
  have d3 : Dl ≠ s₁.heap.objs.size := ne_of_none fD1 hnew
  have kk : ∀ b o, s₁.heap.get? b = some o → h₁.get? b = some o := fun b o e => e3 b o (e2 b o (ex1 b o e))
  have fD : s₁.heap.get? Dl = none := none_of (fun o e => ex1 _ o e) fD1
  have fC : s₁.heap.get? Cl = none := none_of (fun o e => e2 _ o (ex1 _ o e)) fC2
  have okF : FOk (F.comp m₁ sc2 s₁.heap.objs.size Dl Cl) sc2 := c.fok ok
  have I0 := I1.comp ok c kk (fresh_none _) fD fC d1 d2 ⟨_, e3 _ _ (e2 _ _ hnew)⟩ ⟨_, e3 _ _ nD⟩ hns₁
  have gr : Grown (NF F m₁) (NF (F.comp m₁ sc2 s₁.heap.objs.size Dl Cl) ⟨m₁.M, []⟩) s₁.heap := fun b q => by
    rcases q with (q | q | q | q | q) | q | q | q
    · exact .inl (.inl q)
    · exact .inl (.inr (.inl q))
    · exact .inl (.inr (.inr (.inr q)))
    · exact .inr (q ▸ fresh_none _)
    · exact .inr (q ▸ fD)
    · exact .inr (q ▸ fC)
    · exact .inl (.inr (.inr (.inl q)))
    · cases q
  have st0 : W 0 h₁ := src.W.frame _ _ _ src.st0 fun b _ o e => e3 b o (e2 b o e)
  refine (fun loop => codeAny_compStart_list loop (src.W.self 0 _ _ _ st0 loop)) (comp_loop (Rr := compPost (model X.prog X.w) A NoE use Q (.ref Dl) Cl) (px := px) (pos := pos) (iter := iter) (s := { s₁ with heap := h₁, toks := s₁.toks + ([] : List (Str × Value)).length }) (S2 _ okF) okF c.var (.inr (.inr (.inr (.inl rfl)))) (.inr (.inr (.inr (.inr rfl)))) gr src (chk_le hz) fD fC d1 d3 I0 ⟨_, _, rfl⟩ kk (e3 _ _ nD) st0 hrun fun ys ds σ' o m' s' s'' st I' hD' hl rs h sm kk3 => ?_)
  · obtain ⟨S, IB, sub⟩ := I1.back (Ex := fun b => b = s₁.heap.objs.size ∨ b = Dl) (fun b => Iff.rfl) (fun b q => q.elim (fun q => q ▸ fresh_none _) fun q => q ▸ fD) fC st I'
    have old : ∀ b, NF F m₁ b → b ≠ s₁.heap.objs.size := fun b q w => let ⟨_, e⟩ := I1.hin b q; nos (fresh_none _) (w ▸ e)
    have oldM : ∀ b, fl m'.M b ∨ b ∈ m₁.K → b ≠ s₁.heap.objs.size := fun b q w => q.elim (fun q => (I'.mhid b (.inl q)).1 (.inr (.inr (.inr (.inl w))))) fun q => old b (.inr (.inr (.inr q))) w
    have IC : Inv X (F.hide Cl) ρ ⟨σ'.pi, σ₁.lc⟩ ⟨m'.M, m₁.K⟩ s''.heap := IB.shift (fun b => F.hid b ∨ b = Cl) (fun b => b = s₁.heap.objs.size) (fun b q => .inr (.inr (.inl q))) kk3 (fun b q => .inl (q.imp id .inl)) (fun b q => by
        obtain ⟨o, e⟩ := IB.hin b (.inl (q.imp id .inl))
        exact ⟨o, kk3 b o (fun w => q.elim (fun q => old b (.inl q) w) fun q => d1 (q.symm.trans w)) e⟩) fun b q w => by
        have := q.elim (fun q => (fun w => IB.lhid (q ▸ w) : ¬ (_ ∨ _))) fun q => (IB.mhid b q).1
        exact this (w.imp id .inl)
    have fb : ∀ b, F.hid b → ∃ o, s₁.heap.get? b = some o := fun b q => I1.hin b (.inl q)
    refine hQ Dl Cl ds _ _ s'' (st1.trans (S.it (fresh_none _) oldM sm kk3)) IC (fun q => let ⟨_, e⟩ := fb _ q; nos fC e) (fun b o e w => let ⟨_, e⟩ := st1.alive b o e; nos fC (w ▸ e)) (RSeq.mk (vs := ys) rfl (fun q => ?_) ⟨_, kk3 _ _ d3 hD', rfl, _, rfl⟩ (hl ▸ chk_le hz) ?_) ?_ h
    · rcases nf_hide q with q | q
      · rcases q with q | q | q | q
        · obtain ⟨_, e⟩ := fb _ q; exact nos fD e
        · obtain ⟨_, e⟩ := I1.hin Dl (.inr (.inl q)); exact nos fD e
        · exact (I'.mhid _ (.inl q)).1 (.inr (.inr (.inr (.inr rfl))))
        · obtain ⟨_, e⟩ := I1.hin Dl (.inr (.inr (.inr q))); exact nos fD e
      · exact d2 q.symm
    · exact rs.mono (List.prefix_refl _) (fun b o n e => kk3 b o (fun w => n (.inl (.inr (.inr (.inr (.inl w)))))) e) fun b q => .inl (sub b ((nf_hide q).imp id .inl))
    · obtain ⟨f, ⟨o, es, ep, ho, q⟩, _⟩ := I'.loc
      exact ⟨f, o, es, ep, kk3 _ _ d1 ho, q⟩
theorem e_comp (S2 : ∀ F', FOk F' sc2 → SE X G k A sc2 F' n) (S : SE X G k A sc F n) {elt iter : Expr} {px pos : Pos} (ok : FOk F sc) (hh : A.handled = none) (I : Inv X F ρ σ m s.heap) (h : Run (CallOk X k) (cE G (n + 1) sc (.ListComp elt [⟨.Name x px, iter, [], 0⟩] sc2 pos) ρ σ κ) R) (K : Kont X (CallOk X k) R F ρ m s κ Q) : Ev X F A (.ListComp elt [⟨.Name x px, iter, [], 0⟩] sc2 pos) Q s := onBW h fun q h => by
  obtain ⟨q1, q2⟩ := Bool.and_eq_true_iff.mp q
  unfold Ev
  rw [eval_ListComp]
  refine comp_core (use := none) S2 S q1 q2 ok hh I h fun Dl Cl ds σ' m' s' st I' na fC r nsC h => ?_
  obtain ⟨f, hn⟩ := nsC
  refine ⟨f, hn, fun h'' sb => ?_⟩
  have kk : ∀ b o, b ≠ Cl → s'.heap.get? b = some o → h''.get? b = some o := fun b o n e => by rw [sb.2 b n]; exact e
  have e : s.heap.get? Cl = none := by
    cases w : s.heap.get? Cl with
    | none => rfl
    | some o => exact absurd rfl (fC _ o w)
  exact K _ (.dat (.lst ds)) _ _ _ (st.it e (fun b q w => (I'.mhid b q).1 (.inr w)) ⟨_, _, rfl⟩ kk) (I'.drop na kk) (Rep.mono (d := .lst ds) (List.prefix_refl _) (fun b o n e => kk b o (fun w => n (.inl (.inr w))) e) (fun b q => .inl (nf_of_hide q)) r) h
end
end Mine
end
noncomputable section
namespace Mine
open PySem PySem.W PyProof.Rows PySem.Calls PySem.SeqAt
section
variable {X : Wd} {G : Cfg} {k n : Nat} {A : Around} {sc : Scope} {F : Fm} {C : CRel} {R : Out} {ρ : Rho} {σ σ' : St} {m m' : Ms} {s s' : Shared} {u : Value} {d : D} {h h' : Heap} {l : List D} {κ : V → St → Tr} {Q : Value → Shared → Prop} {M : Lg} {N : Addr → Prop}
theorem keyLit_inv {e : Option Expr} {keys : List (Option Expr)} {cs : List Const} (h : keyLit (e :: keys) = some cs) : ∃ c j p cs', e = some (.Constant c j p) ∧ keyLit keys = some cs' ∧ cs = c :: cs' := by
  cases e with
  | none => exact nn h
  | some e => cases e with
    | Constant => exact bindW h fun l w h => ⟨_, _, _, l, rfl, w, (Option.some.inj h).symm⟩
    | _ => exact nn h
theorem keyLit_is : ∀ {keys : List (Option Expr)} {cs : List Const}, keyLit keys = some cs → keys.all (·.isSome) = true ∧ cs.length = keys.length
  | [], _, h => by cases h; exact ⟨rfl, rfl⟩
  | _ :: keys, _, h => by
    obtain ⟨c, j, p, cs, rfl, w, rfl⟩ := keyLit_inv h
    exact ⟨(keyLit_is w).1, congrArg Nat.succ (keyLit_is w).2⟩
theorem const_key {c : Const} {j : Nat} {p : Pos} (w : constD c = some d) (hQ : ∀ v tk, (∀ M N h, Rep X M N h v d) → Q v { s with toks := tk }) : Ev X F A (.Constant c j p) Q s := by
  unfold Ev
  rw [eval_Constant]
  cases c with
  | int i => cases w; exact wpAny_mkInt (hQ _ _ fun _ _ _ => rInt _ _)
  | str x =>
    have w : (match Nat.ble x.length 1000 with | true => some (D.str x) | false => none) = some d := w
    cases q : Nat.ble x.length 1000 with
    | false => rw [q] at w; cases w
    | true =>
      rw [q] at w; cases w
      exact fun _ _ _ => hQ (.str x s.toks) _ fun _ _ _ => rStr _ (Nat.le_trans (Nat.le_of_ble_eq_true q) (by rw [sizeLine_eq]; decide))
  | _ => exact nn w
theorem constsD_len : ∀ {cs : List Const} {ks : List D}, constsD cs = some ks → ks.length = cs.length
  | [], _, h => by cases h; rfl
  | _ :: _, _, h => bindW h fun d w h => bindW h fun l w h => by cases h; exact congrArg Nat.succ (constsD_len w)
theorem e_pairs (S : SE X G k A sc F n) (pos : Pos) : ∀ {keys : List (Option Expr)} {vals : List Expr} {cs : List Const} {ks : List D} {σ : St} {m : Ms} {s : Shared} {κ : List D → St → Tr} {Q : List (Value × Value) → Shared → Prop}, keyLit keys = some cs → constsD cs = some ks → keys.length = vals.length → Inv X F ρ σ m s.heap → Run (CallOk X k) (mapC (fun e σ k => cE G n sc e ρ σ (onD k)) vals σ κ) R →
    (∀ kv us ds σ' m' s', Step F m m' s s' → Inv X F ρ σ' m' s'.heap → Reps X m'.M (NF F m') s'.heap us ds → (∀ M N h, Reps X M N h kv ks) → us.length = vals.length → Run (CallOk X k) (κ ds σ') R → Q (kv.zip us) s') → wpAny (model X.prog X.w) A (evalPairs (pairTrees keys vals F.env pos)) Q NoE s
  | [], [], _, _, _, _, _, _, _, h1, h2, _, I, h, K => by
    cases h1; cases h2
    exact evalPairs_nil (K [] [] [] _ _ _ I.same I rfl (fun _ _ _ => rfl) rfl h)
  | [], _ :: _, _, _, _, _, _, _, _, _, _, l, _, _, _ => by cases l
  | _ :: _, [], _, _, _, _, _, _, _, _, _, l, _, _, _ => by cases l
  | e :: keys, v :: vals, cs, ks, σ, m, s, κ, Q, h1, h2, l, I, h, K => by
    obtain ⟨c, j, p, cs', rfl, w1, rfl⟩ := keyLit_inv h1
    refine bindW h2 fun kd w2 h2 => bindW h2 fun ks' w3 h2 => ?_
    cases h2
    unfold pairTrees
    exact evalPairs_cons (const_key w2 fun key tk rk => wpAny_bind (S I h (KD fun vv dv σ₁ m₁ s₁ st I₁ r h => wpAny_bind (wpAny_standAt (wpAny_pure (e_pairs S pos w1 w3 (Nat.succ.inj l) I₁ h fun kv us ds σ₂ m₂ s₂ st₂ I₂ rs rks ll h =>
      K (key :: kv) (vv :: us) (dv :: ds) _ _ _ (((I.toks tk).trans st).trans st₂) I₂ (Reps.cons (r.step st₂) rs) (fun M N h => Reps.cons (rk M N h) (rks M N h)) (congrArg Nat.succ ll) h))))))
theorem carries_of {K : Type} [DecidableEq K] {knd : KeyKind X.prog X.w K} {f : K → D} (hk : ∀ {v i}, Rep X M N h v (f i) → knd.is i v = true) : ∀ {l : List K} {kv us : List Value}, Reps X M N h kv (l.map f) → us.length = l.length → Carries knd (kv.zip us) (l.zip us)
  | [], _, _, r, _ => by cases r; trivial
  | _ :: _, _, [], _, e => by cases e
  | _ :: _, _, _ :: _, r, e => by
    obtain @⟨v, us, rfl, r1, r2⟩ := r
    exact ⟨hk r1, rfl, carries_of hk r2 (Nat.succ.inj e)⟩
theorem nodup_of {K : Type} {f : K → D} (hf : ∀ i, keyIs (f i) (f i) = true) : ∀ {l : List K}, nodupD (l.map f) = true → l.Nodup
  | [], _ => List.nodup_nil
  | i :: l, h => by
    obtain ⟨h1, h2⟩ := Bool.and_eq_true_iff.mp h
    refine List.nodup_cons.mpr ⟨fun m => ?_, nodup_of hf h2⟩
    have go : ∀ {r : List K}, i ∈ r → hasK (keyIs (f i)) (r.map f) = true := fun {r} m => by
      induction r with
      | nil => cases m
      | cons j r ih =>
        show (match keyIs (f i) (f j) with | true => true | false => hasK (keyIs (f i)) (r.map f)) = true
        cases q : keyIs (f i) (f j) with
        | true => rfl
        | false => exact (List.mem_cons.mp m).elim (fun w => by rw [← w, hf] at q; cases q) ih
    rw [go m] at h1; cases h1
theorem all_map {K : Type} {f : K → D} {p : D → Bool} (hp : ∀ {d}, p d = true → ∃ i, d = f i) : ∀ {ks : List D}, allD p ks = true → ∃ l : List K, ks = l.map f
  | [], _ => ⟨[], rfl⟩
  | d :: ks, h => by
    have h : (match p d with | true => allD p ks | false => false) = true := h
    cases q : p d with
    | false => rw [q] at h; cases h
    | true =>
      rw [q] at h
      obtain ⟨l, rfl⟩ := all_map hp h
      obtain ⟨i, rfl⟩ := hp q
      exact ⟨i :: l, rfl⟩
theorem dict_key {keys : List (Option Expr)} {vals : List Expr} {p : Pos} {K : Type} [DecidableEq K] {knd : KeyKind X.prog X.w K} {f : K → D} {l : List K} {cs : List Const} (S : SE X G k A sc F n) (hk : ∀ {M N h v i}, Rep X M N h v (f i) → knd.is i v = true) (hf : ∀ i, keyIs (f i) (f i) = true) (hd : ∀ {h : Heap} {a us}, h.DictOf knd a (l.zip us) → Keyed X h a (l.map f) us)
    (q1 : keyLit keys = some cs) (q2 : constsD cs = some (l.map f)) (q3 : l.length = vals.length) (q4 : l.length ≤ 15) (q5 : nodupD (l.map f) = true) (hne : keys ≠ []) (I : Inv X F ρ σ m s.heap)
    (h : Run (CallOk X k) (mapC (fun e σ k => cE G n sc e ρ σ (onD k)) vals { σ with pi := σ.pi ++ [.dct [] []] } fun ds σ' => onB (isEmpC σ'.pi[σ.pi.length]?) (κ (.dat (.cell σ.pi.length)) { σ' with pi := σ'.pi.set σ.pi.length (.dct (l.map f) ds) })) R) (K : Kont X (CallOk X k) R F ρ m s κ Q) : Ev X F A (.Dict keys vals p) Q s := by
  obtain ⟨k1, k2⟩ := keyLit_is q1
  have hkl : keys.length = l.length := by rw [← k2, ← constsD_len q2, List.length_map]
  have hlen := pairTrees_length keys vals F.env p k1 (hkl.trans q3)
  have g : (s.heap.push { cls := .type "dict", data := .dict #[] }).get? s.heap.objs.size = some { cls := .type "dict", data := .dict #[] } := Heap.get?_push_size _ rfl
  obtain ⟨st0, I0⟩ := I.add (s' := { s with heap := s.heap.push { cls := .type "dict", data := .dict #[] } }) (p := (s.heap.objs.size, s.heap.objs.size)) (c := .dct [] []) ⟨_, _, rfl⟩ (push_ext _ _) (fresh_none _) (fresh_none _) ⟨_, g⟩ ⟨_, g⟩ fun _ => .mk (vs := []) (.emp ⟨_, 0, g, ⟨rfl, rfl, rfl⟩, rfl⟩ rfl) rfl (Nat.zero_le _) rfl
  refine wpAny_Dict_pairs (knd := knd) (pairs := pairTrees keys vals F.env p) (zip_pairTrees keys vals F.env p k1 (hkl.trans q3)) (fun e => hne (List.length_eq_zero_iff.mp (by rw [← hlen, e]; rfl))) (by rw [hlen, hkl]; exact q4) ?_
  refine e_pairs (s := { s with heap := s.heap.push { cls := .type "dict", data := .dict #[] } }) S p q1 q2 (hkl.trans q3) I0 h fun kv us ds σ' m' s' st I' rs rks lu h => onBW h fun q h => ?_
  have hi : m'.M[σ.pi.length]? = some (s.heap.objs.size, s.heap.objs.size) := by
    obtain ⟨t, ht⟩ := st.pre
    rw [← ht, ← I.len, List.getElem?_append_left (by rw [List.length_append]; exact Nat.lt_succ_self _)]
    exact List.getElem?_concat_length
  have he : EmpO s'.heap s.heap.objs.size := by
    cases q5 : σ'.pi[σ.pi.length]? with
    | none => rw [q5] at q; cases q
    | some z =>
      have ca := I'.at_ _ _ _ hi q5
      rw [q5] at q
      clear h q5
      cases z with
      | dct ks ds => cases ks with
        | nil => obtain ⟨e, _⟩ := ca; exact dct_emp e
        | cons => cases q
      | _ => exact nf q
  have lul : us.length = l.length := lu.trans q3.symm
  refine ⟨l.zip us, carries_of hk (rks m'.M (NF F m') s'.heap) lul, emp_dict he, fun h2 hd2 sb => ?_⟩
  rw [merged_nil_of_nodup _ (by rw [List.map_fst_zip (Nat.le_of_eq lul.symm)]; exact nodup_of hf q5)] at hd2
  have lds : (l.map f).length = ds.length := by rw [List.length_map, ← rs.length, lul]
  obtain ⟨st2, I2⟩ := I'.put (s' := { s' with heap := h2, toks := s'.toks + (kv.zip us).length }) (c := .dct (l.map f) ds) hi ⟨_, _, rfl⟩ sb (let ⟨o, _, _, e, _⟩ := hd2; ⟨o, e⟩) fun st => ⟨.key (hd hd2), lds, by rw [← lds, List.length_map]; exact Nat.le_trans q4 (by decide), rs.step st⟩
  exact K _ (.dat (.cell σ.pi.length)) _ _ _ ((st0.trans st).trans st2) I2 (RCell.mk hi rfl) h
theorem e_dict (S : SE X G k A sc F n) {keys : List (Option Expr)} {vals : List Expr} {p : Pos} (I : Inv X F ρ σ m s.heap) (h : Run (CallOk X k) (cE G (n + 1) sc (.Dict keys vals p) ρ σ κ) R) (K : Kont X (CallOk X k) R F ρ m s κ Q) : Ev X F A (.Dict keys vals p) Q s := onBW h fun _ h => by
  cases keys with
  | nil =>
    cases vals with
    | cons => exact h.elim
    | nil =>
      have g : (s.heap.push { cls := .type "dict", data := .dict #[] }).get? s.heap.objs.size = some { cls := .type "dict", data := .dict #[] } := Heap.get?_push_size _ rfl
      obtain ⟨st0, I0⟩ := I.add (s' := { s with heap := s.heap.push { cls := .type "dict", data := .dict #[] } }) (p := (s.heap.objs.size, s.heap.objs.size)) (c := .dct [] []) ⟨_, _, rfl⟩ (push_ext _ _) (fresh_none _) (fresh_none _) ⟨_, g⟩ ⟨_, g⟩ fun _ => .mk (vs := []) (.emp ⟨_, 0, g, ⟨rfl, rfl, rfl⟩, rfl⟩ rfl) rfl (Nat.zero_le _) rfl
      exact wpAny_Dict_empty (K _ (.dat (.cell σ.pi.length)) _ _ _ st0 I0 (RCell.mk (by rw [← I.len]; exact List.getElem?_concat_length) rfl) h)
  | cons k0 keys =>
    refine liftW h fun cs w1 h => liftW h fun ks w2 h => onBW h fun q h => ?_
    obtain ⟨q, q5⟩ := Bool.and_eq_true_iff.mp q
    obtain ⟨q, q4⟩ := Bool.and_eq_true_iff.mp q
    obtain ⟨q2, q3⟩ := Bool.and_eq_true_iff.mp q
    have q2 := Nat.eq_of_beq_eq_true q2
    have q3 := Nat.le_of_ble_eq_true q3
    rcases Bool.or_eq_true_iff.mp q5 with q5 | q5
    · obtain ⟨l, rfl⟩ := all_map (f := D.int) (fun {d} h => by cases d <;> first | exact ⟨_, rfl⟩ | exact nf h) q5
      rw [List.length_map] at q2
      exact dict_key (knd := intKind X.prog X.w) S (fun r => by obtain ⟨t, rfl⟩ := r; exact intKind_is _ _ _ _) (fun i => show keyIs (.int i) (.int i) = true from decide_eq_true rfl) (fun hd => .int rfl hd) w1 w2 q2 (q2 ▸ q3) q4 (by intro e; cases e) I h K
    · obtain ⟨l, rfl⟩ := all_map (f := D.str) (fun {d} h => by cases d <;> first | exact ⟨_, rfl⟩ | exact nf h) q5
      rw [List.length_map] at q2
      exact dict_key (knd := strKind X.prog X.w) S (fun r => by obtain @⟨t, rfl, _⟩ := r; exact strKind_is _ _ _ _) (fun i => show keyIs (.str i) (.str i) = true from sq_iff.mpr rfl) (fun hd => .str rfl hd) w1 w2 q2 (q2 ▸ q3) q4 (by intro e; cases e) I h K
end
end Mine
end
noncomputable section
namespace Mine
open PySem PySem.W PyProof.Rows PySem.Calls PySem.SeqAt
section
variable {X : Wd} {G : Cfg} {k n : Nat} {A : Around} {sc : Scope} {F : Fm} {C : CRel} {R : Out} {ρ ρ' : Rho} {σ σ' : St} {m m' : Ms} {s s' : Shared} {u : Value} {d : D} {l : List D} {κ : V → St → Tr} {Q : Value → Shared → Prop}
theorem gen_is {gens : List Comprehension} {g : Str × Expr} (h : genOf gens = some g) : ∃ px, gens = [⟨.Name g.1 px, g.2, [], 0⟩] := by
  refine bindW h fun c w h => onOW h fun q h => bindW h fun x w2 h => ?_
  obtain ⟨q1, q2⟩ := Bool.and_eq_true_iff.mp q
  obtain ⟨p, e⟩ := name_is w2
  obtain ⟨t, it, ifs, a⟩ := c
  cases List.isEmpty_iff.mp q1
  cases of_decide_eq_true q2
  cases h
  cases e
  exact ⟨p, one_is w⟩
theorem t_plain (gk : Gk X G) (S : SE X G k A sc F n) {e : Expr} {κ : Bool → St → Tr} {Q : Bool → Shared → Prop} (I : Inv X F ρ σ m s.heap) (h : Run (CallOk X k) (cE G n sc e ρ σ (onD fun a σ => lift (truth (thaw σ a)) fun t => κ t σ)) R) (K : KonT X (CallOk X k) R F ρ m s κ Q)
    (he : isTrue e F.env (eval e F.env) = (do let v ← eval e F.env; standAt e.pos; holding [v] (truthy v))) : wpAny (model X.prog X.w) A (isTrue e F.env (eval e F.env)) Q NoE s :=
  isTrue_plain (e_truth gk S (κ := fun _ t σ => κ t σ) I h fun _ _ t _ _ _ st I _ h => K t _ _ _ st I h) he
theorem se_succ (gk : Gk X G) (ao : AOk (k + 1) A) (S : ∀ {sc F}, FOk F sc → SE X G k A sc F n) (T : ∀ {sc F}, FOk F sc → SB X G k A sc F n) (ok : FOk F sc) : SE X G k A sc F (n + 1) := by
  intro e ρ σ κ R m s Q I h K
  cases e with
  | Constant c j p => exact e_const I h K
  | Name x p => exact e_name gk ok I h K
  | Tuple es j p => exact e_tuple (S ok) I h K
  | List es p => exact e_list (S ok) I h K
  | Dict ks vs p => exact e_dict (S ok) I h K
  | BinOp l op r p => exact e_binop (S ok) I h K
  | Compare l ops rs p => exact e_compare gk (S ok) ao.down I h K
  | BoolOp op es p => exact e_bool gk (S ok) I h K
  | UnaryOp op x p => exact e_unary gk (S ok) I h K
  | IfExp t a b p => exact e_ifexp (S ok) (T ok) I h K
  | Subscript o i p => exact e_sub (S ok) I h K
  | Attribute o x p => exact e_attr gk (S ok) I h K
  | Call f args kws p => cases kws with
    | cons => exact h.elim
    | nil => cases f with
      | Attribute o x ap => exact e_dot gk ao.down (S ok) I h K
      | Name x xp => exact e_call gk ok ao (S ok) I h K
      | _ => exact h.elim
  | ListComp elt gens sc2 p =>
    refine liftW h fun g w h2 => ?_
    obtain ⟨px, rfl⟩ := gen_is w
    exact e_comp (fun _ ok => S ok) (S ok) ok ao.handled I h K
  | _ => exact h.elim
theorem sb_succ (gk : Gk X G) (ao : AOk (k + 1) A) (S : SE X G k A sc F n) (T : SB X G k A sc F n) : SB X G k A sc F (n + 1) := by
  intro e ρ σ κ R m s Q I h K
  cases e with
  | UnaryOp op x p => cases op with
    | Not => exact isTrue_not (T (κ := fun b σ => κ (!b) σ) I h fun b _ _ _ st I h => K (!b) _ _ _ st I h)
    | _ => exact h.elim
  | BoolOp op es p => exact t_bool T I h K
  | Compare l ops rs p => exact t_compare gk S ao.down I h K
  | IfExp => exact h.elim
  | _ => exact t_plain gk S I h K rfl
theorem sound_e (gk : Gk X G) (ao : AOk (k + 1) A) : ∀ n, (∀ {sc F}, FOk F sc → SE X G k A sc F n) ∧ ∀ {sc F}, FOk F sc → SB X G k A sc F n
  | 0 => ⟨fun _ => fun _ h _ => h.elim, fun _ => fun _ h _ => h.elim⟩
  | n + 1 => let ⟨S, T⟩ := sound_e gk ao n; ⟨fun ok => se_succ gk ao S T ok, fun ok => sb_succ gk ao (S ok) (T ok)⟩
end
end Mine
end
noncomputable section
namespace Mine
open PySem PySem.W PyProof.Rows PySem.Calls PySem.SeqAt
abbrev Ex (X : Wd) (F : Fm) (A : Around) (t : Stmt) (Q : Flow → Shared → Prop) (s : Shared) : Prop := wpAny (model X.prog X.w) A (exec t F.env) Q NoE s
noncomputable def FlowIs (X : Wd) (F : Fm) (m : Ms) (s : Shared) (f : Flow) : Option V → Prop
  | none => f = .next
  | some v => ∃ u, f = .ret u ∧ RepV X F m s.heap u v
noncomputable def Kost (X : Wd) (C : CRel) (R : Out) (F : Fm) (m : Ms) (s : Shared) (κ : Out → Tr) (Q : Flow → Shared → Prop) : Prop :=
  ∀ f o m' s', Step F m m' s s' → Inv X F o.2.1 o.2.2 m' s'.heap → FlowIs X F m' s' f o.1 → Run C (κ o) R → Q f s'
noncomputable def SS (X : Wd) (G : Cfg) (k : Nat) (A : Around) (sc : Scope) (F : Fm) (n : Nat) : Prop := ∀ {st : Stmt} {ρ : Rho} {σ : St} {κ : Out → Tr} {R : Out} {m : Ms} {s : Shared} {Q : Flow → Shared → Prop},
  Inv X F ρ σ m s.heap → Run (CallOk X k) (cS G n sc st ρ σ κ) R → Kost X (CallOk X k) R F m s κ Q → Ex X F A st Q s
section
variable {X : Wd} {G : Cfg} {k n : Nat} {A : Around} {sc : Scope} {F : Fm} {C : CRel} {R : Out} {ρ ρ' : Rho} {σ σ' : St} {m m' m₁ : Ms} {s s' s₁ : Shared} {u : Value} {d : D} {l : List D} {κ : Out → Tr} {Q : Flow → Shared → Prop} {e value o i test : Expr} {x : Str} {p pos : Pos} {body orelse : List Stmt}
theorem Kost.after (K : Kost X C R F m s κ Q) (st : Step F m m' s s') : Kost X C R F m' s' κ Q := fun f o m'' s'' st' => K f o m'' s'' (st.trans st')
theorem Kost.next (K : Kost X C R F m s κ Q) (st : Step F m m' s s') (I : Inv X F ρ σ m' s'.heap) (h : Run C (κ (none, ρ, σ)) R) : Q .next s' := K .next (none, ρ, σ) m' s' st I rfl h
theorem s_block (S : SS X G k A sc F n) : ∀ {l : List Stmt} {ρ : Rho} {σ : St} {m : Ms} {s : Shared}, Inv X F ρ σ m s.heap → Run (CallOk X k) (seqC (cS G n sc) l ρ σ κ) R → Kost X (CallOk X k) R F m s κ Q → wpAny (model X.prog X.w) A (execs l F.env) Q NoE s
  | [], _, _, _, _, I, h, K => wpAny_execs_nil (K.next I.same I h)
  | st :: l, _, _, _, _, I, h, K => wpAny_execs_cons (S I h fun f o m' s' st I' fi h => by
    obtain ⟨v, ρ1, σ1⟩ := o
    cases v with
    | none => cases fi; exact s_block S I' h (K.after st)
    | some v => obtain ⟨u, rfl, r⟩ := fi; exact K _ (some v, ρ1, σ1) _ _ st I' ⟨u, rfl, r⟩ h)
theorem no_swap {t : Option Expr} {line : Nat} {env : Env} (h : okE e = true) (h2 : noLC e = true) : swapsWith e t line env = pure false := by
  cases e <;> first | rfl | exact nf h | exact nf h2
theorem is_lc (h : noLC e = false) : ∃ a b c d, e = .ListComp a b c d := by
  cases e <;> first | exact ⟨_, _, _, _, rfl⟩ | exact nt h
theorem s_name (Sp : ∀ j, n = j + 1 → ∀ {sc F}, FOk F sc → SE X G k A sc F j) (S : SE X G k A sc F n) (ok : FOk F sc) (hh : A.handled = none) (oe : okE value = true) (I : Inv X F ρ σ m s.heap) (h : Run (CallOk X k) (cE G n sc value ρ σ fun v σ => lift (rsetL sc ρ x v) fun ρ' => κ (none, ρ', σ)) R) (K : Kost X (CallOk X k) R F m s κ Q) : Ex X F A (.Assign [.Name x p] value pos) Q s := by
  have plain : swapsWith value (some (.Name x p)) pos.line F.env = pure false → Ex X F A (.Assign [.Name x p] value pos) Q s := fun hs =>
    wpAny_Assign_Name (S I h fun u v σ' m' s' st I' r h => liftW h fun ρ' w h => store_at ok w I' r fun s'' st' I'' => K.next (st.trans st') I'' h) hs
  cases w : noLC value with
  | true => exact plain (no_swap oe w)
  | false =>
    obtain ⟨elt, gens, sc2, pc, rfl⟩ := is_lc w
    have hb : ∃ b : Bool, swapsWith (.ListComp elt gens sc2 pc) (some (.Name x p)) pos.line F.env = pure b := ⟨_, rfl⟩
    obtain ⟨b, hb⟩ := hb
    cases b with
    | false => exact plain hb
    | true =>
      cases n with
      | zero => exact h.elim
      | succ n =>
        refine liftW h fun g wg h2 => onBW h2 fun q h2 => ?_
        obtain ⟨px, rfl⟩ := gen_is wg
        obtain ⟨q1, q2⟩ := Bool.and_eq_true_iff.mp q
        unfold Ex
        rw [exec_Assign_Name_used _ _ _ _ hb]
        refine wpAny_bind (wpAny_standAt (wpAny_bind ?_))
        show wpAny _ A (do let _ ← comprehension (.ListComp elt [⟨.Name g.1 px, g.2, [], 0⟩] sc2 pc) sc2 F.env _ (newList []) false (eval g.2 F.env) (some (assign (.Name x p) F.env))) _ _ s
        refine wpAny_bind (wpAny_mono (comp_core (κ := fun v σ => lift (rsetL sc ρ x v) fun ρ' => κ (none, ρ', σ)) (use := some (assign (.Name x p) F.env)) (Q := fun _ s' => Q .next s') (fun _ ok => Sp n rfl ok) (Sp n rfl ok) q1 q2 ok hh I h2 fun Dl Cl ds σ' m' s' st I' na fC r nsC h => ?_) (fun _ s' hq => wpAny_pure (wpAny_pure hq)) fun _ _ e => e)
        obtain ⟨f, o, es, ep, ho, q⟩ := nsC
        refine wpAny_assign_Name (liftW h fun ρ' w h => store_at (F := F.hide Cl) (ok.hide Cl) w I' r fun s'' st' I'' => ⟨f, ⟨o, es, ep, st'.kept _ _ ho (fun w => I'.lhid (.inr w.symm)) fun w => (I'.mhid _ w).1 (.inr rfl), q⟩, fun h3 sb => ?_⟩)
        have e : s.heap.get? Cl = none := by
          cases w : s.heap.get? Cl with
          | none => rfl
          | some o => exact absurd rfl (fC _ o w)
        have kk : ∀ b o, b ≠ Cl → s''.heap.get? b = some o → h3.get? b = some o := fun b o n e => by rw [sb.2 b n]; exact e
        exact K.next ((st.trans st'.unhide).it (s'' := { s'' with heap := h3 }) e (fun b q w => (I''.mhid b q).1 (.inr w)) ⟨_, _, rfl⟩ kk) (I''.drop na kk) h
theorem setW {t : Bool} {v : V} {kd : D} {κ : St → Tr} {P : Prop} (h : Run C (setC t v kd d σ κ) R) (g : ∀ σ', setItem v kd d σ = some σ' → Run C (κ σ') R → P) : P := by
  cases v with
  | dat => exact liftW h g
  | loc c =>
    refine liftW h fun l w h => lresW h fun r w2 h => bindW w2 fun l' w3 w4 => ?_
    cases w4
    exact g _ (by show (σ.lc[c]?).bind _ = _; rw [w]; show (listSet l kd d).bind _ = _; rw [w3]; rfl) h
theorem setItem_at (gk : Gk X G) (hu : A.units + 8 < cLine) (I : Inv X F ρ σ m s.heap) {key val : Value} {v : V} {kd : D} {E : Value → Shared → Prop} {Q : Unit → Shared → Prop} (ru : RepV X F m s.heap u v) (rk : Rep X m.M (NF F m) s.heap key kd) (rd : Rep X m.M (NF F m) s.heap val d) (q : setItem v kd d σ = some σ')
    (hQ : ∀ s', Step F m m s s' → Inv X F ρ σ' m s'.heap → Q () s') : wpAny (model X.prog X.w) A (PySem.setItem u key val) Q E s := by
  cases v with
  | loc c =>
    refine bindW q fun l w q => bindW q fun l' w2 q => ?_
    cases q
    obtain ⟨a, e, rfl⟩ := ru
    obtain @⟨vs, p, z, rs⟩ := I.lst _ _ _ e w
    exact list_store p z rs rk rd w2 fun s' sm sb al z => let st := I.setL e sm (fun b o n e => by rw [sb.2 b n]; exact e) al z; hQ _ st.1 st.2
  | dat v =>
    cases v with
    | cell c =>
      refine bindW q fun y w q => bindW q fun y' w2 q => ?_
      cases q
      obtain @⟨p, e, rfl⟩ := ru
      have ca := I.at_ _ _ _ e w
      clear w
      cases y with
      | lst l =>
        refine bindW w2 fun l' w3 q => ?_
        cases q
        obtain @⟨vs, pl, z, rs⟩ := ca
        exact list_store pl z rs rk rd w3 fun s' sm sb al z => let st := I.put (c := .lst l') e sm sb al z; hQ _ st.1 st.2
      | dct ks ds => exact dict_store I e ca rk rd w2 hu hQ
      | tab ks ds =>
        refine bindW w2 fun r w3 q => onOW q fun c q => ?_
        cases q
        obtain ⟨c1, c2⟩ := Bool.and_eq_true_iff.mp c
        obtain @⟨xs, hx, z, t, r1, r2⟩ := ca
        exact tab_store I e hx t r1 r2 ((Bool.not_eq_true' _).mp c1) (Nat.blt_eq.mp c2) (rk_inv w3 ▸ rk) rd hu hQ
      | _ => exact nn w2
    | _ => exact nn q
theorem sw_sub {line : Nat} {env : Env} (h : okE value = true) : swapsWith value (some (.Subscript o i p)) line env = pure false := by cases value <;> first | rfl | exact nf h
theorem sw_attr {line : Nat} {env : Env} (h : okE value = true) : swapsWith value (some (.Attribute o x p)) line env = pure false := by cases value <;> first | rfl | exact nf h
theorem sw_tup {line : Nat} {env : Env} {es : List Expr} {kk : Nat} (h : okE value = true) : swapsWithSole [.Tuple es kk p] value line env = pure false := by cases value <;> first | rfl | exact nf h
theorem sw_st {env : Env} {es : List Expr} {kk : Nat} (h : (!isTupE value) = true) : swappedStores [.Tuple es kk p] value env = pure none := by cases value <;> first | rfl | exact nf h
theorem s_assign (gk : Gk X G) (Sp : ∀ j, n = j + 1 → ∀ {sc F}, FOk F sc → SE X G k A sc F j) (S : SE X G k A sc F n) (ok : FOk F sc) (ao : AOk k A) {ts : List Expr} (I : Inv X F ρ σ m s.heap) (h : Run (CallOk X k) (cS G (n + 1) sc (.Assign ts value pos) ρ σ κ) R) (K : Kost X (CallOk X k) R F m s κ Q) : Ex X F A (.Assign ts value pos) Q s := by
  refine liftW h fun t w h => onBW h fun oe h => ?_
  rw [one_is w]
  cases t with
  | Name x p => exact s_name Sp S ok ao.handled oe I h K
  | Subscript o i p =>
    exact wpAny_Assign_Subscript (S I h (KD fun _ _ _ _ _ st₁ I₁ r₁ h => S I₁ h fun _ _ _ _ _ st₂ I₂ r₂ h => S I₂ h (KD fun _ _ _ _ _ st₃ I₃ r₃ h => setW h fun σ' q h => setItem_at gk ao.u8 I₃ (r₂.step st₃) r₃ ((r₁.step st₂).step st₃) q fun s' st I => K.next (((st₁.trans st₂).trans st₃).trans st) I h)))
      (sw_sub oe)
  | Attribute o x p =>
    exact plainObj_wpAny_Assign_Attribute (S I h (KD fun _ _ _ _ _ st₁ I₁ r₁ h => S I₁ h (KD fun _ _ _ _ _ st₂ I₂ r₂ h => liftW h fun σ' q h => setAttr_at gk I₂ r₂ (r₁.step st₂) q fun s' st I => K.next ((st₁.trans st₂).trans st) I h)))
      (sw_attr oe)
  | Tuple es kk p =>
    refine onBW h fun ot h => ?_
    exact PyProof.Rows.Assign_Tuple (S I h (KD fun _ d _ _ _ st₁ I₁ r₁ h => liftW h fun ρ' q h => assign_at ok ao.handled q I₁ r₁ fun s' st I => K.next (st₁.trans st) I h))
      (sw_tup oe) (sw_st ot)
  | _ => exact h.elim
theorem s_aug (S : SE X G k A sc F n) (ok : FOk F sc) {t : Expr} {op : Operator} (I : Inv X F ρ σ m s.heap) (h : Run (CallOk X k) (cS G (n + 1) sc (.AugAssign t op value pos) ρ σ κ) R) (K : Kost X (CallOk X k) R F m s κ Q) : Ex X F A (.AugAssign t op value pos) Q s :=
  liftW h fun x wx h => onBW h fun q h => liftW h fun old w h => onDW h fun a e h => liftW h fun i wi hr' => by
    obtain ⟨p, rfl⟩ := name_is wx
    have kx := ok.loc x (isK_is q)
    obtain ⟨f, hn, hm⟩ := I.loc
    obtain ⟨u, hu, hr⟩ := hm x _ w kx
    rw [e, dInt_is wi] at hr
    obtain ⟨t, rfl⟩ := hr
    refine wpAny_AugAssign_Name (wpAny_loadName_local ok.kind kx hn hu (S I hr' (KD fun v b σ' m' s' st I' r h => ?_)))
    clear hm wx hn hu w wi
    cases op with
    | Add =>
      exact gInt r h fun j t' e h => liftW h fun ρ' w2 h => by
        rw [e]
        exact iadd_int (store_at (s := { s' with toks := s'.toks + 1 }) (v := .dat (.int (i + j))) ok (by unfold rsetL; rw [q]; exact w2) I' (show Rep X m'.M (NF F m') s'.heap _ (.int (i + j)) from rInt _ _) fun s'' st' I'' => K.next ((st.trans (I'.toks _)).trans st') I'' h)
    | _ => exact h.elim
theorem endT_inv {b c : Bool} {ρ0 : Rho} (h : Run C (endT b σ) (some (.dat (.bool c)), ρ0, σ')) : b = c ∧ σ = σ' := by
  have h : (some (V.dat (.bool b)), ([] : Rho), σ) = (some (.dat (.bool c)), ρ0, σ') := h
  cases h
  exact ⟨rfl, rfl⟩
inductive WI (X : Wd) (F : Fm) (m₁ : Ms) (s₁ : Shared) (T B : Rho → St → Out → Prop) (o : Out) : Nat → Shared → Prop
  | mk {j ρ σ m s} : Step F m₁ m s₁ s → Inv X F ρ σ m s.heap → loopW T B j ρ σ o → WI X F m₁ s₁ T B o j s
theorem s_while (SS_ : SS X G k A sc F n) (T : SB X G k A sc F n) (I : Inv X F ρ σ m s.heap) (h : Run (CallOk X k) (cS G (n + 1) sc (.While test body orelse pos) ρ σ κ) R) (K : Kost X (CallOk X k) R F m s κ Q) : Ex X F A (.While test body orelse pos) Q s := by
  cases orelse with
  | cons => exact h.elim
  | nil =>
    obtain ⟨o, hw, h⟩ := h
    refine wpAny_While (codeAny_whileLoop (WI X F m s _ _ o) ?_ n (.mk I.same I hw))
    rintro j s' ⟨st, I2, hw⟩
    cases j with
    | zero => exact hw.elim
    | succ j =>
      rcases hw with ⟨ρ0, σ', hT, rfl⟩ | ⟨ρ0, σ1, ρ3, σ3, hT, hB, hw⟩
      · exact noE (T I2 hT fun b σ'' m'' s'' st2 I3 hd => by
          obtain ⟨rfl, rfl⟩ := endT_inv hd
          exact wpAny_execs_nil (K.next (st.trans st2) I3 h))
      · exact noE (T I2 hT fun b σ'' m'' s'' st2 I3 hd => by
          obtain ⟨rfl, rfl⟩ := endT_inv hd
          exact noE (s_block SS_ I3 hB fun f o' m3 s3 st3 I4 fi hd => by
            have hd : o' = _ := hd
            subst hd
            cases fi
            exact ⟨j, Nat.lt_succ_self j, .mk ((st.trans st2).trans st3) I4 hw⟩))
noncomputable def ForJ (C : CRel) (B : D → Rho → St → (Out → Tr) → Tr) (Fin : Out → Prop) : List D → Rho → St → Prop
  | [], ρ, σ => Fin (none, ρ, σ)
  | d :: r, ρ, σ => ∃ κ R', Run C (B d ρ σ κ) R' ∧ ∀ o, Run C (κ o) R' → match o.1 with
    | none => ForJ C B Fin r o.2.1 o.2.2
    | some _ => Fin o
theorem forJ_u {B : D → Rho → St → (Out → Tr) → Tr} : ∀ {l : List D} {ρ : Rho} {σ : St}, Run C (forC B l ρ σ κ) R → ForJ C B (fun o => Run C (κ o) R) l ρ σ
  | [], _, _, h => h
  | d :: r, ρ, σ, h => ⟨_, R, h, fun o h => by
    obtain ⟨v, ρ1, σ1⟩ := o
    cases v with
    | none => exact forJ_u h
    | some v => exact h⟩
theorem forJ_l {B : D → Rho → St → (Out → Tr) → Tr} {o : Out} {Fin : Out → Prop} (hf : Fin o) : ∀ {l : List D} {ρ : Rho} {σ : St}, loopF (fun d ρ σ o => Run C (B d ρ σ .done) o) l ρ σ o → ForJ C B Fin l ρ σ
  | [], ρ, σ, h => by have h : o = (none, ρ, σ) := h; subst h; exact hf
  | d :: r, ρ, σ, ⟨ρ1, σ1, h1, h2⟩ => ⟨.done, _, h1, fun o h => by
    have h : o = _ := h
    subst h
    exact forJ_l hf h2⟩
theorem forJ_of {b : Bool} {B : D → Rho → St → (Out → Tr) → Tr} (h : Run C (loopC b B l ρ σ κ) R) : ForJ C B (fun o => Run C (κ o) R) l ρ σ := by
  cases b with
  | true => exact forJ_u h
  | false => obtain ⟨o, h1, h2⟩ := h; exact forJ_l (B := B) (Fin := fun o => Run C (κ o) R) h2 h1
inductive FI (X : Wd) (F : Fm) (m₁ : Ms) (s₁ : Shared) (l : List D) (S : Nat → Heap → Prop) (J : List D → Rho → St → Prop) : Nat → Shared → Prop
  | mk {i rest ρ σ m s} : l.drop i = rest → Step F m₁ m s₁ s → Inv X (F.hide s₁.heap.objs.size) ρ σ m s.heap → i ≤ l.length → S i s.heap → J rest ρ σ → FI X F m₁ s₁ l S J (rest.length + 1) s
theorem s_for (SS_ : ∀ {F}, FOk F sc → SS X G k A sc F n) (ok : FOk F sc) (hh : A.handled = none) {t : Expr} {ob : Obj} {P S fp} {Fin : Out → Prop} {Rr : Result → Shared → Prop} (I : Inv X F ρ σ m s.heap) (src : Src X A F m s l ob P S fp) (hnew : (s.heap.push ob).get? s.heap.objs.size = some ob)
    (h : ForJ (CallOk X k) (fun d ρ σ κ => lift (bindTo sc t d ρ) fun ρ' => seqC (cS G n sc) body ρ' σ κ) Fin l ρ σ) (K : ∀ f o m' s', Step F m m' s s' → Inv X F o.2.1 o.2.2 m' s'.heap → FlowIs X F m' s' f o.1 → Fin o → Rr (.ok f) s') :
    codeAny (model X.prog X.w) A (.forLoop t (.ref s.heap.objs.size) body [] F.env) Rr { s with heap := s.heap.push ob } := by
  have fI := fresh_none s.heap
  have nI : ∀ {b}, NF F m b → b ≠ s.heap.objs.size := fun {b} q w => let ⟨_, e⟩ := I.hin b q; nos fI (w ▸ e)
  have na : ¬ F.hid s.heap.objs.size := fun q => nI (.inl q) rfl
  refine codeAny_forLoop_any (FI X F m s l S (ForJ (CallOk X k) (fun d ρ σ κ => lift (bindTo sc t d ρ) fun ρ' => seqC (cS G n sc) body ρ' σ κ) Fin)) ?_ (l.length + 1)
    (.mk (i := 0) rfl (I.grew (s' := { s with heap := s.heap.push ob }) ⟨_, _, rfl⟩ (push_ext _ _)) (I.hide (push_ext _ _) fI ⟨_, hnew⟩) (Nat.zero_le _) src.st0 h)
  rintro _ s' (@⟨i, rest, ρ2, σ2, m2, _, hr, st, I2, hl, hst, h⟩)
  have off : ∀ b, fl m2.M b ∨ b ∈ m2.K → b ≠ s.heap.objs.size := fun b q w => (I2.mhid b q).1 (.inr w)
  cases rest with
  | nil =>
    have hl : i = l.length := Nat.le_antisymm hl (List.drop_eq_nil_iff.mp hr)
    refine src.W.done s' _ _ (hl ▸ hst) fun h3 tk3 kk3 => ?_
    have kk3 := kk_of kk3
    exact wpAny_execs_nil (K .next (none, ρ2, σ2) _ _ (st.it (s'' := { s' with heap := h3, toks := tk3 }) fI off ⟨_, _, rfl⟩ kk3) (I2.drop na kk3) rfl h)
  | cons dv r =>
    obtain ⟨lt, hdv, hr'⟩ := drop_cons hr
    refine src.W.item i s' _ _ lt hst fun v h3 tk3 hp hst3 kk3 => ?_
    have kk3 := kk_of kk3
    have ik := src.it _ _ hst3
    have I3 := I2.keepH (.inr rfl) kk3 (let ⟨o, _, e, _⟩ := ik; ⟨o, e⟩)
    have st3 := st.it (s'' := { s' with heap := h3, toks := tk3 }) fI off ⟨_, _, rfl⟩ kk3
    have rv : Rep X m2.M (NF (F.hide s.heap.objs.size) m2) h3 v dv := (src.item i v dv hdv hp).mono st3.pre st3.keptN fun b q => (nf_hide q).elim (st3.grown b) fun w => .inr (w ▸ fI)
    obtain ⟨κ', R', hb, hn⟩ := h
    refine owned_go (s := { s' with heap := h3, toks := tk3 }) ik (liftW hb fun ρ3 w hb => assign_at (F := F.hide s.heap.objs.size) (ok.hide _) hh w I3 rv fun s4 st4 I4 => noE (s_block (F := F.hide s.heap.objs.size) (SS_ (ok.hide _)) I4 hb fun f o m5 s5 st5 I5 fi ho => ?_))
    have hn := hn o ho
    have stA : Step F m m5 s s5 := (st3.trans st4.unhide).trans st5.unhide
    obtain ⟨v1, ρ5, σ5⟩ := o
    cases v1 with
    | none =>
      cases fi
      refine ⟨r.length + 1, Nat.lt_succ_self _, .mk hr' stA I5 lt (src.W.frame _ _ _ hst3 fun b hb o e => ?_) hn⟩
      have key : b ≠ F.env.locals ∧ ¬ (fl m2.M b ∨ b ∈ m2.K) := by
        rcases src.foot b hb with w | ⟨nb, o', eb⟩
        · exact ⟨fun q => nI (.inr (.inl rfl)) (q.symm.trans w), fun q => off b q w⟩
        · exact ⟨fun w => nb (.inr (.inl w)), fun q => (st3.new b q).elim (fun q => nb (.inr (.inr q))) fun w => nos w eb⟩
      exact (st4.trans st5).kept b o e key.1 key.2
    | some v1 =>
      obtain ⟨u, rfl, r⟩ := fi
      have I6 : Inv X F ρ5 σ5 m5 s5.heap := I5.drop na fun b o _ e => e
      exact K _ (some v1, ρ5, σ5) _ _ stA I6 ⟨u, rfl, r.mono (List.prefix_refl _) (List.prefix_refl _) (fun b o _ e => e) fun b q => .inl (nf_of_hide q)⟩ hn
theorem ss_succ (gk : Gk X G) (ao : AOk (k + 1) A) (SS_ : ∀ {F}, FOk F sc → SS X G k A sc F n) (ok : FOk F sc) : SS X G k A sc F (n + 1) := by
  intro st ρ σ κ R m s Q I h K
  obtain ⟨S, T⟩ := sound_e gk ao n
  cases st with
  | Assign ts value pos => exact s_assign gk (fun j e _ _ ok => (sound_e gk ao j).1 ok) (S ok) ok ao.down I h K
  | AugAssign t op value pos => exact s_aug (S ok) ok I h K
  | If test body orelse pos => exact wpAny_If (T ok (κ := fun b σ => match b with | true => seqC (cS G n sc) body ρ σ κ | false => seqC (cS G n sc) orelse ρ σ κ) I h fun b σ' m' s' st I' h => by cases b <;> exact s_block (SS_ ok) I' h (K.after st))
  | While test body orelse pos => exact s_while (SS_ ok) (T ok) I h K
  | For t iter body orelse pos =>
    cases orelse with
    | cons => exact h.elim
    | nil =>
      refine onBW h fun oi h => wpAny_For (S ok I h (KD fun u d σ' m' s' st I' r h => liftW h fun l q h => src_at ao.handled r q fun ob P W fp src hnew => ?_)) (fun x => no_fold oi x)
      refine s_for SS_ ok ao.handled I' src hnew (Fin := fun o => Run (CallOk X k) (κ o) R) (forJ_of h) fun f o m' s' st' => K f o m' s' (st.trans st')
  | Return v pos => exact liftW h fun e w h => by subst w; exact wpAny_Return_some (S ok I h fun u v σ' m' s' st I' r h => K (.ret u) (some v, ρ, σ') _ _ st I' ⟨u, rfl, r⟩ h)
  | Expr e pos =>
    refine onBW h fun q h => ?_
    obtain ⟨q1, q2⟩ := Bool.and_eq_true_iff.mp q
    exact wpAny_Expr_any (S ok I h fun u v σ' m' s' st I' r h => K.next st I' h) (by unfold interactive; rw [ok.kind]; rfl) (no_swap q1 q2)
  | _ => exact h.elim
theorem sound (gk : Gk X G) (ao : AOk (k + 1) A) : ∀ n, ∀ {F}, FOk F sc → SS X G k A sc F n
  | 0, _, _ => fun _ h _ => h.elim
  | n + 1, _, ok => ss_succ gk ao (sound gk ao n) ok
end
end Mine
end
noncomputable section
namespace Mine
open PySem PySem.W PyProof.Rows PySem.Calls PySem.SeqAt
structure FnRec where
  params : List Str
  body : List Stmt
  scope : Scope
noncomputable def nodupB : List Str → Bool
  | [] => true
  | x :: r => !hasK (sq x) r && nodupB r
noncomputable def allP {α : Type} (f : α → Bool) : List α → Bool
  | [] => true
  | d :: r => match f d with
    | true => allP f r
    | false => false
noncomputable def fnOk (r : FnRec) : Bool := isFun r.scope && (!r.scope.isCoroutine && !r.scope.isGenerator) && nodupB r.params && (allP (fun x => isK .local (kindIn r.scope.names x) || isK .cell (kindIn r.scope.names x)) r.params && allP (fun p => !oddName p.1 && !isK .free (some p.2)) r.scope.names)
structure FnOk (X : Wd) (a : Addr) (r : FnRec) : Prop where
  fn : ∃ o fd, X.hb.get? a = some o ∧ o.data = .func fd ∧ fd.body = .stmts r.body ∧ fd.scope = r.scope ∧ fd.closure = [] ∧ fd.globals = mainGlobals ∧ fd.builtins = builtinsNs ∧ X.hb.CodeRec fd.code fd.qualname ∧
    ∀ vals : List Value, vals.length = r.params.length → bindArgs fd ⟨vals, []⟩ = pure (r.params.zip vals)
  ok : fnOk r = true
noncomputable def rho0 : List (Str × NameKind) → List Str → List D → Rho
  | [], _, _ => []
  | (x, _) :: r, ps, ds => (x, (fget ps ds x).map V.dat) :: rho0 r ps ds
noncomputable def endD (d : D) (pi : List Cell) : Tr := .done (some (.dat d), [], ⟨pi, []⟩)
noncomputable def outT (o : Out) : Tr := match o.1 with
  | none => endD .none o.2.2.pi
  | some v => onD (fun d σ => endD d σ.pi) v o.2.2
noncomputable def bodyT (G : Cfg) (N : Nat) (r : FnRec) (args : List D) (pi : List Cell) : Tr := onB (Nat.beq args.length r.params.length) (cB G N r.scope r.body (rho0 r.scope.names r.params args) ⟨pi, []⟩ outT)
theorem allP_is {α : Type} {f : α → Bool} : ∀ {l : List α}, allP f l = true → ∀ x ∈ l, f x = true
  | [], _, _, m => by cases m
  | d :: r, h, x, m => by
    unfold allP at h
    cases w : f d with
    | false => rw [w] at h; exact nf h
    | true => rw [w] at h; exact (List.mem_cons.mp m).elim (fun e => e ▸ w) (allP_is h x)
theorem nodupB_of : ∀ {l : List Str}, nodupB l = true → l.Nodup
  | [], _ => List.nodup_nil
  | x :: r, h => by
    obtain ⟨h1, h2⟩ := Bool.and_eq_true_iff.mp h
    refine List.nodup_cons.mpr ⟨fun m => ?_, nodupB_of h2⟩
    have : ∀ {l : List Str}, x ∈ l → hasK (sq x) l = true := fun {l} => by
      induction l with
      | nil => intro m; cases m
      | cons a l ih =>
        intro m
        show (match sq x a with | true => true | false => hasK (sq x) l) = true
        cases w : sq x a with
        | true => rfl
        | false => exact (List.mem_cons.mp m).elim (fun e => absurd e (sq_ne w)) ih
    rw [this m] at h1
    exact nf h1
theorem rget_rho0 {ps : List Str} {ds : List D} {x : Str} {v : V} : ∀ {names : List (Str × NameKind)}, rget (rho0 names ps ds) x = some v → ∃ d, v = .dat d ∧ fget ps ds x = some d
  | [], h => nn h
  | (y, k) :: r, h => by
    have h : (match sq x y with | true => (fget ps ds y).map V.dat | false => rget (rho0 r ps ds) x) = some v := h
    cases q : sq x y with
    | true =>
      rw [q] at h
      cases sq_iff.mp q
      obtain ⟨d, h1, rfl⟩ := Option.map_eq_some_iff.mp h
      exact ⟨d, rfl, h1⟩
    | false => rw [q] at h; exact rget_rho0 h
theorem lookup_none_of {α : Type} : ∀ {l : List (Str × α)} {x : Str}, x ∉ l.map (·.1) → l.lookup x = none
  | [], _, _ => rfl
  | (y, k) :: r, x, h => by
    rw [List.lookup_cons, beq_eq_false_iff_ne.mpr fun e => h (by rw [e]; exact List.mem_cons_self)]
    exact lookup_none_of fun m => h (List.mem_cons_of_mem _ m)
theorem bind_get {kindOf : Str → Option NameKind} {x : Str} : ∀ (binds : List (Str × Value)) (m : Str → Option Value), (binds.map (·.1)).Nodup → (kindOf x = some .local → bindL kindOf binds m x = (binds.lookup x).or (m x)) ∧ (¬ kindOf x = some .local → bindC kindOf binds m x = (binds.lookup x).or (m x))
  | [], m, _ => ⟨fun _ => rfl, fun _ => rfl⟩
  | (n, v) :: r, m, nd => by
    obtain ⟨n1, n2⟩ := List.nodup_cons.mp nd
    refine ⟨fun hx => ?_, fun hx => ?_⟩
    · rw [bindL, (bind_get r _ n2).1 hx, List.lookup_cons]
      by_cases e : x = n
      · subst e
        rw [lookup_none_of n1, if_pos hx, if_pos rfl, beq_self_eq_true]; rfl
      · rw [beq_eq_false_iff_ne.mpr e]
        by_cases w : kindOf n = some .local
        · rw [if_pos w, if_neg e]
        · rw [if_neg w]
    · rw [bindC, (bind_get r _ n2).2 hx, List.lookup_cons]
      by_cases e : x = n
      · subst e
        rw [lookup_none_of n1, if_neg hx, if_pos rfl, beq_self_eq_true]; rfl
      · rw [beq_eq_false_iff_ne.mpr e]
        by_cases w : kindOf n = some .local
        · rw [if_pos w]
        · rw [if_neg w, if_neg e]
theorem cellsFrom_mem : ∀ (names : List (Str × NameKind)) (n : Nat) (acc : List (Str × Addr)) (x : Str), ((∃ c, (x, c) ∈ acc) ∨ (x, NameKind.cell) ∈ names) → ∃ c, (x, c) ∈ cellsFrom n names acc
  | [], n, acc, x, h => h.elim id fun h => by cases h
  | (y, k) :: r, n, acc, x, h => by
    unfold cellsFrom
    split
    · refine cellsFrom_mem r _ _ x (h.elim (fun ⟨c, h⟩ => .inl ⟨c, List.mem_cons_of_mem _ h⟩) fun h => ?_)
      exact (List.mem_cons.mp h).elim (fun e => by cases e; exact .inl ⟨n, List.mem_cons_self⟩) .inr
    · rename_i hk
      exact cellsFrom_mem r _ _ x (h.elim .inl fun h => (List.mem_cons.mp h).elim (fun e => by cases e; exact absurd rfl hk) .inr)
theorem mem_lookup {α : Type} : ∀ {l : List (Str × α)} {x : Str} {k : α}, (x, k) ∈ l → ∃ k', l.lookup x = some k'
  | (y, k') :: r, x, k, h => by
    rw [List.lookup_cons]
    cases q : x == y with
    | true => exact ⟨_, rfl⟩
    | false => exact (List.mem_cons.mp h).elim (fun e => by cases e; rw [beq_self_eq_true] at q; exact nt q) mem_lookup
theorem AOk.deeper {k : Nat} {A : Around} {env : Env} (a : AOk (k + 1) A) : AOk k (A.deeper env) :=
  ⟨a.handled, by have := a.depth; show A.depth + 1 + k < _; rwa [Nat.add_right_comm, Nat.add_assoc], Nat.lt_of_le_of_lt (by show A.units + 3 + 4 * k + 40 ≤ A.units + (4 * k + 4) + 40; exact Nat.add_le_add_right (by rw [Nat.add_assoc, Nat.add_comm 3]; exact Nat.add_le_add_left (Nat.le_succ _) _) _) a.units⟩
section
variable {X : Wd} {G : Cfg} {k N : Nat} {A : Around} {F : Fm} {ρ : Rho} {m m' : Ms} {s s' : Shared} {a : Addr} {fr : FnRec} {args : List D} {pi pi' : List Cell} {d : D} {vs : List Value} {R : Result → Shared → Prop}
structure NewF (fr : FnRec) (vs : List Value) (h h₁ : Heap) (env : Env) : Prop where
  sc : env.scope = fr.scope
  fok : ∀ hid, FOk ⟨env, hid⟩ fr.scope
  keep : ∀ b o, h.get? b = some o → h₁.get? b = some o
  new : h.get? env.locals = none
  loc : ∃ f, h₁.Ns env.locals f ∧ ∀ x u, env.kindOf x = some .local → (fr.params.zip vs).lookup x = some u → f x = some u
  cel : ∀ x u, env.kindOf x = some .cell → (fr.params.zip vs).lookup x = some u → ∃ c, env.cells.lookup x = some c ∧ h₁.IsCell c (some u) ∧ h.get? c = none ∧ c ≠ env.locals
  fre : ∀ x, env.kindOf x ≠ some .free
  frame : env.frame = some env.locals
theorem enter (gk : Gk X G) (fo : FnOk X a fr) (hd : A.depth < recursionLimit) (base : ∀ b o, X.hb.get? b = some o → s.heap.get? b = some o) (hl : vs.length = fr.params.length)
    (h : ∀ env h₁ tk, NewF fr vs s.heap h₁ env → wpAny (model X.prog X.w) (A.deeper env) (execs fr.body env) (fun f s' => R (.ok (.ret (match f with | .ret v => v | _ => .none))) s')
        (fun e s' => wpAny (model X.prog X.w) (A.deeper env) (leaving env e) (fun _ s'' => R (.error e) s'') (fun e' s'' => R (.error e') s'') s') { s with heap := h₁, toks := tk }) :
    codeAny (model X.prog X.w) A (.call (.ref a) ⟨vs, []⟩) R s := by
  obtain ⟨⟨o, fd, ho, hfd, hbody, hsc, hclo, hgl, hbu, hcd, hbind⟩, fok⟩ := fo
  obtain ⟨fok, f56⟩ := Bool.and_eq_true_iff.mp fok
  obtain ⟨f5, f6⟩ := Bool.and_eq_true_iff.mp f56
  obtain ⟨fok, f4⟩ := Bool.and_eq_true_iff.mp fok
  obtain ⟨f1, f23⟩ := Bool.and_eq_true_iff.mp fok
  obtain ⟨f2, f3⟩ := Bool.and_eq_true_iff.mp f23
  clear fok f56 f23
  have k1 : fr.scope.kind = .function := by
    cases w : fr.scope.kind with
    | function => rfl
    | _ => unfold isFun at f1; rw [w] at f1; exact nf f1
  have zf : (fr.params.zip vs).map (·.1) = fr.params := List.map_fst_zip (Nat.le_of_eq hl.symm)
  have nd : ((fr.params.zip vs).map (·.1)).Nodup := by rw [zf]; exact nodupB_of f4
  have od : ∀ x k, kindIn fr.scope.names x = some k → oddName x = false ∧ k ≠ .free := fun x k hx => by
    obtain ⟨a1, a2⟩ := Bool.and_eq_true_iff.mp (allP_is f6 (x, k) (lookup_mem (kindIn_lookup _ _ ▸ hx)))
    exact ⟨Bool.not_eq_true' _ ▸ a1, fun e => by cases e; exact nf a2⟩
  have env_scope : (callEnvC fd s.heap.objs.size a).scope = fr.scope := hsc
  have kof : ∀ x, (callEnvC fd s.heap.objs.size a).kindOf x = kindIn fr.scope.names x := fun x => by
    rw [kindIn_lookup]
    show (callEnvC fd s.heap.objs.size a).scope.names.lookup x = _
    rw [env_scope]
  have cl : ∀ x, kindIn fr.scope.names x = some .cell → ∃ c, (cellsFrom (s.heap.objs.size + 1) fd.scope.names []).lookup x = some c := fun x q => by
    obtain ⟨c, hc⟩ := cellsFrom_mem fd.scope.names (s.heap.objs.size + 1) [] x (.inr (lookup_mem (by rw [hsc, ← kindIn_lookup]; exact q)))
    exact mem_lookup hc
  refine codeAny_call_cells hd (base _ _ ho) hfd (let ⟨mc, p, q⟩ := gk.nolimit; ⟨mc, p.keeps base, q⟩) (hcd.keeps base) hbody (hbind vs hl) hclo (fun x hx => ?_) (fun s₁ ic => ?_) (by rw [hsc]; exact Bool.not_eq_true' _ ▸ f2) (by rw [hsc]; exact Bool.not_eq_true' _ ▸ f3) (by rw [hsc]; exact k1)
  · have hx1 : x.1 ∈ fr.params := by rw [← zf]; exact List.mem_map_of_mem hx
    rw [hsc, ← kindIn_lookup]
    cases w : isK .local (kindIn fr.scope.names x.1) with
    | true => exact .inl (isK_is w)
    | false =>
      have := allP_is f5 _ hx1
      rw [w] at this
      have this : isK .cell (kindIn fr.scope.names x.1) = true := this
      have q := isK_is this
      obtain ⟨c, e⟩ := cl _ q
      rw [hsc] at e
      exact .inr ⟨q, by rw [e]; rfl⟩
  · obtain ⟨h₁, tk, rfl⟩ := ic.toInCall.same
    refine h _ h₁ tk ⟨env_scope, fun hid => ⟨fun x k e => oddName_of (od x k e).1, by show (callEnvC fd s.heap.objs.size a).scope.kind = _; rw [env_scope]; exact k1, hgl, hbu, fun x e => (kof x).trans e, fun x e => .inl ((kof x).trans e), fun x e => absurd rfl (od x _ e).2, fun x e => (kof x).trans e⟩,
      ic.toInCall.keep, fresh_none _, ⟨_, ic.toInCall.ns, fun x u e1 e2 => by rw [(bind_get _ _ nd).1 e1, e2]; rfl⟩, fun x u e1 e2 => ?_, fun x e => (od x _ ((kof x).symm.trans e)).2 rfl, rfl⟩
    obtain ⟨c, hc⟩ := cl x ((kof x).symm.trans e1)
    have hc : (callEnvC fd s.heap.objs.size a).cells.lookup x = some c := hc
    have ab : s.heap.objs.size < c := ic.above x c (lookup_mem hc)
    refine ⟨c, hc, ?_, Heap.get?_none_of_le (Nat.le_of_lt ab), Nat.ne_of_gt ab⟩
    have ce := ic.cell x c hc
    rw [(bind_get _ _ nd).2 (by rw [e1]; exact fun w => by cases w), e2] at ce
    exact ce
abbrev callF (F : Fm) (m : Ms) (env : Env) : Fm := ⟨env, fun b => F.hid b ∨ b = F.env.locals ∨ b ∈ m.K ∨ False⟩
theorem callF_hid {env : Env} (b : Addr) : (callF F m env).hid b ↔ F.hid b ∨ b = F.env.locals ∨ b ∈ m.K ∨ False := Iff.rfl
theorem NewF.inv {h₁ : Heap} {env : Env} {lc : List (List D)} (nf : NewF fr vs s.heap h₁ env) (I : Inv X F ρ ⟨pi, lc⟩ m s.heap) (rs : Reps X m.M (NF F m) s.heap vs args) (hl : args.length = fr.params.length) : Inv X (callF F m env) (rho0 fr.scope.names fr.params args) ⟨pi, []⟩ ⟨m.M, []⟩ h₁ := by
  have kn : KeptN (NF F m) s.heap h₁ := fun b o _ e => nf.keep b o e
  refine I.enter (Ex := fun _ => False) callF_hid nf.keep (fun _ => False.elim) nf.new (fun f => f) (fun gr => ?_) fun gr => ?_
  · obtain ⟨f, hf, hl2⟩ := nf.loc
    refine ⟨f, hf, fun x v e1 e2 => ?_⟩
    obtain ⟨d, rfl, hd⟩ := rget_rho0 e1
    obtain ⟨u, hu, _, ru⟩ := (fget_at hl.symm rs).1 d hd
    exact ⟨u, hl2 x u e2 hu, Rep.mono (List.prefix_refl _) kn gr ru⟩
  · refine fun x v e1 e2 => ?_
    obtain ⟨d, rfl, hd⟩ := rget_rho0 e1
    obtain ⟨u, hu, _, ru⟩ := (fget_at hl.symm rs).1 d hd
    obtain ⟨c, c1, c2, c3, c4⟩ := nf.cel x u (e2.elim id fun e => absurd e (nf.fre x)) hu
    refine ⟨c, u, c1, c2, fun q => ?_, Rep.mono (List.prefix_refl _) kn gr ru⟩
    have no : ∀ {b}, NF F m b → b ≠ c := fun {b} q w => let ⟨_, e⟩ := I.hin b q; nos c3 (w ▸ e)
    rcases q with (q | q | q | q) | q | q | q
    · exact no (.inl q) rfl
    · exact no (.inr (.inl q)) rfl
    · exact no (.inr (.inr (.inr q))) rfl
    · exact q
    · exact c4 q
    · exact no (.inr (.inr (.inl q))) rfl
    · cases q
theorem call_of (gk : Gk X G) (fo : FnOk X a fr) (hr : Run (CallOk X k) (bodyT G N fr args pi) (some (.dat d), [], ⟨pi', []⟩)) : CallOk X (k + 2) a args pi d pi' := by
  intro A F ρ lc m s vs Q E ao I rs hQ
  refine onBW hr fun hl hr => ?_
  have hl := Nat.eq_of_beq_eq_true hl
  refine enter gk fo (Nat.lt_of_le_of_lt (Nat.le_add_right _ _) ao.depth) I.base (rs.length.trans hl) fun env h₁ tk nf => ?_
  have I0 := nf.inv I rs hl
  have fin : ∀ (f : Flow) (v : Value) m' s', (match f with | .ret v => v | _ => .none) = v → Step (callF F m env) ⟨m.M, []⟩ m' { s with heap := h₁, toks := tk } s' → (∃ ρ' lc', Inv X (callF F m env) ρ' ⟨pi', lc'⟩ m' s'.heap) →
      Rep X m'.M (NF (callF F m env) m') s'.heap v d → RQ Q E (.ok (.ret (match f with | .ret v => v | _ => .none))) s' := fun f v m' s' ev st ⟨ρ', lc', I'⟩ r => by
    rw [ev]
    have st0 : Step (callF F m env) ⟨m.M, []⟩ m' s s' := ⟨Same.trans ⟨h₁, tk, rfl⟩ st.same, st.pre, st.preK, fun x q => (st.new x q).imp id fun e => by
        cases w : s.heap.get? x with
        | none => rfl
        | some o => exact nos e (nf.keep _ _ w), st.there, fun b o e => st.kept b o (nf.keep b o e), fun b o e => st.alive b o (nf.keep b o e)⟩
    obtain ⟨S, IB, sub⟩ := I.back (Ex := fun _ => False) callF_hid (fun _ => False.elim) nf.new st0 I'
    refine hQ v _ s' S (IB.shift F.hid (fun _ => False) (fun _ => False.elim) (fun _ _ _ e => e) (fun b q => .inl (.inl q)) (fun b q => IB.hin b (.inl (.inl q))) fun b q w => q.elim (fun q => I.lhid (q ▸ w)) fun q => (IB.mhid b q).1 (.inl w)) (Rep.mono (List.prefix_refl _) (fun b o _ e => e) (fun b q => .inl (sub b (.inl q))) r)
  refine wpAny_mono (s_block (X := X) (G := G) (k := k) (n := N) (R := (some (.dat d), [], ⟨pi', []⟩)) (κ := outT) (Q := fun f s' => RQ Q E (.ok (.ret (match f with | .ret v => v | _ => .none))) s') (sound gk (AOk.deeper (env := env) ao) N (nf.fok _)) I0 hr fun f o m' s' st I' fi h => ?_) (fun _ _ h => h) fun _ _ f => f.elim
  obtain ⟨ov, ρ', σ'⟩ := o
  cases ov with
  | none =>
    cases fi
    cases h
    exact fin .next _ _ _ rfl st ⟨_, _, I'⟩ rfl
  | some v =>
    obtain ⟨u, rfl, r⟩ := fi
    cases v with
    | loc => exact h.elim
    | dat d' =>
      cases h
      exact fin (.ret u) _ _ _ rfl st ⟨_, _, I'⟩ r
theorem CallOk.le {k j : Nat} (h : CallOk X k a args pi d pi') (l : k ≤ j) : CallOk X j a args pi d pi' := fun A F ρ lc m s vs Q E ao => h A F ρ lc m s vs Q E (ao.le l)
end
end Mine
end
noncomputable section
namespace Mine
open PySem PySem.W PyProof.Rows PySem.Calls
noncomputable def gT (P : Params) (a : Nat) : Option Obj := match Nat.blt a 908 with
  | true => ((H.T24 P).get a).bind alive
  | false => none
theorem gT_is {P : Params} {a : Nat} {o : Obj} (h : gT P a = some o) : (H.H1h P).get? a = some o := by
  unfold gT at h
  cases q : Nat.blt a 908 with
  | false => rw [q] at h; exact nn h
  | true =>
    rw [q] at h
    exact bindW h fun o' h1 h2 => (abs_get (life := {}) (n := 908) (Nat.blt_eq.mp q) h1).trans h2
noncomputable def wd (w : World) : Wd := ⟨H.pw, w, H.H1h w.params⟩
noncomputable def strK (v : Value) : Option Str := match v with
  | .str y _ => some y
  | _ => none
noncomputable def keyS (v : Value) (x : Str) : Bool := match strK v with
  | some y => sq y x
  | none => false
noncomputable def lookS : List DictEntry → Str → Option Value
  | [], _ => none
  | e :: r, x => match keyS e.key x with
    | true => some e.val
    | false => lookS r x
theorem strK_is {v : Value} {y : Str} (h : strK v = some y) : ∃ t, v = .str y t := by
  cases v with
  | str z t => exact ⟨t, by rw [Option.some.inj h]⟩
  | _ => exact nn h
theorem lookS_is : ∀ (l : List DictEntry) (x : Str), nsFind ⟨l⟩ x = lookS l x := fun l x => by
  unfold nsFind findBy
  rw [List.find?_toArray]
  induction l with
  | nil => rfl
  | cons e r ih =>
    rw [List.find?_cons]
    have : e.key.isStr x = keyS e.key x := by
      unfold keyS
      cases w : strK e.key with
      | some y =>
        obtain ⟨t, q⟩ := strK_is w
        rw [q]
        show (y == x) = sq y x
        rw [Bool.eq_iff_iff, beq_iff_eq, sq_iff]
      | none =>
        cases q : e.key with
        | str => rw [q] at w; exact nn w.symm
        | _ => rfl
    show Option.map (·.val) (match e.key.isStr x with | true => some e | false => _) = (match keyS e.key x with | true => some e.val | false => lookS r x)
    rw [this]
    cases keyS e.key x with
    | true => rfl
    | false => exact ih
noncomputable def dctOf (o : Obj) : Option (List DictEntry) := match o.data with
  | .dict es _ => some es.toList
  | _ => none
noncomputable def seqIn (o : Obj) : Option (List Value) := match o.data with
  | .seq xs _ => some xs.toList
  | _ => none
noncomputable def fldOf (o : Obj) : Option (List Value) := match o.data with
  | .fields xs => some xs.toList
  | _ => none
noncomputable def isFn (o : Obj) : Bool := match o.data with
  | .func _ => true
  | _ => false
noncomputable def refOf (v : Value) : Option Addr := match v with
  | .ref a => some a
  | _ => none
noncomputable def intOf (v : Value) : Option Int := match v with
  | .int i _ => some i
  | _ => none
noncomputable def biOf (v : Value) : Option String := match v with
  | .builtin n => some n
  | _ => none
noncomputable def tyOf (v : Value) : Option String := match v with
  | .type n => some n
  | _ => none
noncomputable def isNoneV (v : Value) : Bool := match v with
  | .none => true
  | _ => false
noncomputable def tyIs (v : Value) (n : String) : Bool := match tyOf v with
  | some m => decide (m = n)
  | none => false
noncomputable def biIs (v : Value) (n : String) : Bool := match biOf v with
  | some m => decide (m = n)
  | none => false
theorem dctOf_is {o : Obj} {l : List DictEntry} (h : dctOf o = some l) : ∃ n, o.data = .dict ⟨l⟩ n := by
  obtain ⟨c, d, o, s⟩ := o
  cases o with
  | dict es n => exact ⟨n, by cases Option.some.inj h; rfl⟩
  | _ => exact nn h
theorem seqIn_is {o : Obj} {l : List Value} (h : seqIn o = some l) : ∃ n, o.data = .seq ⟨l⟩ n := by
  obtain ⟨c, d, o, s⟩ := o
  cases o with
  | seq es n => exact ⟨n, by cases Option.some.inj h; rfl⟩
  | _ => exact nn h
theorem fldOf_is {o : Obj} {l : List Value} (h : fldOf o = some l) : o.data = .fields ⟨l⟩ := by
  obtain ⟨c, d, o, s⟩ := o
  cases o with
  | fields es => cases Option.some.inj h; rfl
  | _ => exact nn h
theorem isFn_is {o : Obj} (h : isFn o = true) : ∃ fd, o.data = .func fd := by
  obtain ⟨c, d, o, s⟩ := o
  cases o with
  | func fd => exact ⟨fd, rfl⟩
  | _ => exact nf h
theorem refOf_is {v : Value} {a : Addr} (h : refOf v = some a) : v = .ref a := by
  cases v with
  | ref => rw [Option.some.inj h]
  | _ => exact nn h
theorem intOf_is {v : Value} {a : Int} (h : intOf v = some a) : ∃ t, v = .int a t := by
  cases v with
  | int _ t => exact ⟨t, by rw [Option.some.inj h]⟩
  | _ => exact nn h
theorem isNoneV_is {v : Value} (h : isNoneV v = true) : v = .none := by
  cases v with
  | none => rfl
  | _ => exact nf h
theorem tyIs_is {v : Value} {n : String} (h : tyIs v n = true) : v = .type n := by
  cases v with
  | type m => rw [of_decide_eq_true (p := m = n) h]
  | _ => exact nf h
theorem biIs_is {v : Value} {n : String} (h : biIs v n = true) : v = .builtin n := by
  cases v with
  | builtin m => rw [of_decide_eq_true (p := m = n) h]
  | _ => exact nf h
noncomputable def bo {α : Type} (o : Option α) (f : α → Bool) : Bool := match o with
  | some a => f a
  | none => false
theorem bothW {α : Type} {o : Option α} {f : α → Bool} {G : Prop} (h : bo o f = true) (g : ∀ a, o = some a → f a = true → G) : G := by
  cases o with
  | none => exact nf h
  | some a => exact g a rfl h
noncomputable def keysI : List DictEntry → Option (List Int × List Value)
  | [] => some ([], [])
  | e :: r => (intOf e.key).bind fun k => onO (decide (e.hash = hashInt k)) ((keysI r).bind fun p => some (k :: p.1, e.val :: p.2))
noncomputable def all2 (f : Value → D → Bool) : List Value → List D → Bool
  | [], ds => match ds with
    | [] => true
    | _ => false
  | v :: vs, ds => match ds with
    | d :: ds => f v d && all2 f vs ds
    | [] => false
noncomputable def keq : List Int → List D → Bool
  | [], ds => match ds with
    | [] => true
    | _ => false
  | k :: ks, ds => match ds with
    | d :: ds => bo (dInt d) (fun i => decide (i = k)) && keq ks ds
    | [] => false
noncomputable def nodupI : List Int → Bool
  | [] => true
  | k :: r => !hasK (fun j => decide (k = j)) r && nodupI r
noncomputable def exact_ (o : Obj) (T : String) : Bool := tyIs o.cls T && (o.dict.isNone && o.slots.toList.isEmpty)
noncomputable def repB (g : Nat → Option Obj) : Nat → Value → D → Bool
  | 0, _, _ => false
  | n + 1, v, d => match d with
    | .none => isNoneV v
    | .int j => bo (intOf v) fun i => decide (i = j)
    | .str x => bo (strK v) fun y => sq y x && Nat.ble x.length 16777216
    | .tup ds => bo (refOf v) fun a => bo (g a) fun o => exact_ o "tuple" && Nat.ble ds.length 16777216 && bo (seqIn o) fun xs => all2 (repB g n) xs ds
    | .dct ks ds => bo (refOf v) fun a => bo (g a) fun o => exact_ o "dict" && !Nat.beq a sysModules && bo (dctOf o) fun es => bo (keysI es) fun p => nodupI p.1 && (keq p.1 ks && Nat.beq ks.length ds.length) && all2 (repB g n) p.2 ds
    | .ref b => bo (refOf v) fun a => Nat.beq a b && bo (g a) isFn
    | _ => false
theorem nodupI_is : ∀ {l : List Int}, nodupI l = true → l.Nodup
  | [], _ => List.nodup_nil
  | k :: r, h => by
    obtain ⟨h1, h2⟩ := Bool.and_eq_true_iff.mp h
    refine List.nodup_cons.mpr ⟨fun m => ?_, nodupI_is h2⟩
    have : ∀ {l : List Int}, k ∈ l → hasK (fun j => decide (k = j)) l = true := fun {l} => by
      induction l with
      | nil => intro m; cases m
      | cons a l ih =>
        intro m
        show (match decide (k = a) with | true => true | false => hasK _ l) = true
        cases w : decide (k = a) with
        | true => rfl
        | false => exact (List.mem_cons.mp m).elim (fun e => absurd e (of_decide_eq_false w)) ih
    rw [this m] at h1
    exact nf h1
theorem keysI_is : ∀ {es : List DictEntry} {p : List Int × List Value}, keysI es = some p → p.1.length = p.2.length ∧ (∀ e ∈ es, ∃ k, Value.isInt k e.key = true ∧ e.hash = hashInt k) ∧ ∀ (prog : Program) (w : World), Pairs (intKind prog w) es (p.1.zip p.2)
  | [], p, h => by
    cases h
    exact ⟨rfl, fun e m => (by cases m), fun _ _ => .nil⟩
  | e :: r, p, h => bindW h fun k hk h => onOW h fun hh h => bindW h fun p' h1 h => by
    cases h
    obtain ⟨t, hk⟩ := intOf_is hk
    obtain ⟨i1, i2, i3⟩ := keysI_is h1
    have ik : Value.isInt k e.key = true := by rw [hk]; simp [Value.isInt]
    refine ⟨congrArg Nat.succ i1, fun e' m => (List.mem_cons.mp m).elim (fun w => w ▸ ⟨k, ik, of_decide_eq_true hh⟩) (i2 e'), fun prog w => .cons (by rw [hk]; exact intKind_is prog w k t) rfl (i3 prog w)⟩
theorem keq_is : ∀ {ks : List Int} {l : List D}, keq ks l = true → l = ks.map D.int
  | [], [], _ => rfl
  | [], _ :: _, h => nf h
  | _ :: _, [], h => nf h
  | k :: ks, d :: l, h => by
    obtain ⟨h1, h2⟩ := Bool.and_eq_true_iff.mp h
    exact bothW h1 fun i w q => by rw [keq_is h2, dInt_is w, of_decide_eq_true q]; rfl
section
variable {X : Wd} {g : Nat → Option Obj}
theorem exact_is {o : Obj} {T : String} (h : exact_ o T = true) : o = { cls := .type T, data := o.data } := by
  obtain ⟨h1, h2⟩ := Bool.and_eq_true_iff.mp h
  obtain ⟨h2, h3⟩ := Bool.and_eq_true_iff.mp h2
  obtain ⟨c, d, o, ⟨sl⟩⟩ := o
  cases tyIs_is h1
  cases Option.isNone_iff_eq_none.mp h2
  cases List.isEmpty_iff.mp h3
  rfl
theorem all2_is {f : Value → D → Bool} {M : Lg} {N : Addr → Prop} {h : Heap} (ih : ∀ v d, f v d = true → Rep X M N h v d) : ∀ {vs : List Value} {ds : List D}, all2 f vs ds = true → Reps X M N h vs ds
  | [], [], _ => rfl
  | [], _ :: _, q => nf q
  | _ :: _, [], q => nf q
  | _ :: _, _ :: _, q => let ⟨q1, q2⟩ := Bool.and_eq_true_iff.mp q; Reps.cons (ih _ _ q1) (all2_is ih q2)
theorem repB_is (hg : ∀ a o, g a = some o → X.hb.get? a = some o) {M : Lg} {N : Addr → Prop} {h : Heap} (ext : ∀ b o, X.hb.get? b = some o → h.get? b = some o) (off : ∀ a, N a → X.hb.get? a = none) : ∀ (n : Nat) (v : Value) (d : D), repB g n v d = true → Rep X M N h v d
  | 0, _, _, q => nf q
  | n + 1, v, d, q => by
    have no : ∀ {a o}, g a = some o → ¬ N a := fun {a o} e w => nos (off a w) (hg _ _ e)
    cases d with
    | none => exact isNoneV_is q
    | int j => exact bothW q fun i w q => of_decide_eq_true q ▸ intOf_is w
    | str x =>
      refine bothW q fun y w q => ?_
      obtain ⟨q1, q2⟩ := Bool.and_eq_true_iff.mp q
      obtain ⟨t, e⟩ := strK_is w
      exact ⟨sq_iff.mp q1 ▸ e, chk_le q2⟩
    | tup ds =>
      refine bothW q fun a w q => bothW q fun o e q => ?_
      obtain ⟨q, q3⟩ := Bool.and_eq_true_iff.mp q
      obtain ⟨q1, q2⟩ := Bool.and_eq_true_iff.mp q
      refine bothW q3 fun xs e2 q3 => ?_
      obtain ⟨k, e2⟩ := seqIn_is e2
      exact ⟨refOf_is w, no e, ⟨k, (ext _ _ (hg _ _ e)).trans (by rw [exact_is q1, e2])⟩, chk_le q2, all2_is (repB_is hg ext off n) q3⟩
    | dct ks ds =>
      refine bothW q fun a w q => bothW q fun o e q => ?_
      obtain ⟨q, q3⟩ := Bool.and_eq_true_iff.mp q
      obtain ⟨q1, q2⟩ := Bool.and_eq_true_iff.mp q
      refine bothW q3 fun es e2 q3 => bothW q3 fun p e3 q3 => ?_
      obtain ⟨q3, q6⟩ := Bool.and_eq_true_iff.mp q3
      obtain ⟨q3, q4⟩ := Bool.and_eq_true_iff.mp q3
      obtain ⟨q4, q5⟩ := Bool.and_eq_true_iff.mp q4
      obtain ⟨k, e2⟩ := dctOf_is e2
      obtain ⟨i1, i2, i3⟩ := keysI_is e3
      refine ⟨refOf_is w, no e, beq_eq_false_iff_ne.mpr fun w => ?_, .int (is := p.1) (keq_is q4) ⟨_, ⟨es⟩, k, ext _ _ (hg _ _ e), by rw [exact_is q1]; exact ⟨rfl, rfl, rfl⟩, e2, fun e he => i2 e (List.mem_toArray.mp he), i3 _ _, by rw [List.map_fst_zip (Nat.le_of_eq i1)]; exact nodupI_is q3⟩, Nat.eq_of_beq_eq_true q5, all2_is (repB_is hg ext off n) q6⟩
      have q2 : Nat.beq a sysModules = false := Bool.not_eq_true' _ ▸ q2
      exact Nat.ne_of_beq_eq_false q2 w
    | ref b =>
      refine bothW q fun a w q => ?_
      obtain ⟨q1, q2⟩ := Bool.and_eq_true_iff.mp q
      cases Nat.eq_of_beq_eq_true q1
      exact bothW q2 fun o e q2 => let ⟨fd, hf⟩ := isFn_is q2; ⟨refOf_is w, hg _ _ e, hf⟩
    | _ => exact nf q
end
end Mine
end
noncomputable section
namespace Mine
open PySem PySem.W PyProof.Rows PySem.Calls
structure Fe where
  a : Nat
  s : Stmt
  nm : Str
  qn : Str
  pm : Value
  ca : Nat
  z : Bool
noncomputable def ftab : List Fe := [
  ⟨35, H.me 2 0, H.z20, H.z26, (.str H.z16 194), 34, false⟩,
  ⟨92, H.me 38 0, H.z20, H.z70, (.str H.z49 259), 91, true⟩,
  ⟨99, H.me 38 1, H.z67, H.z71, (.str H.z49 259), 98, false⟩,
  ⟨106, H.me 38 2, H.z68, H.z78, (.str H.z49 259), 105, false⟩,
  ⟨120, H.st 39, H.z64, H.z64, (.str H.z49 259), 119, false⟩,
  ⟨127, H.st 40, H.z65, H.z65, (.str H.z49 259), 126, false⟩,
  ⟨134, H.st 41, H.z66, H.z66, (.str H.z49 259), 133, false⟩,
  ⟨141, H.st 42, H.z86, H.z86, (.str H.z49 259), 140, false⟩,
  ⟨148, H.st 43, H.z87, H.z87, (.str H.z49 259), 147, false⟩,
  ⟨155, H.st 44, H.z88, H.z88, (.str H.z49 259), 154, false⟩,
  ⟨162, H.st 45, H.z89, H.z89, (.str H.z49 259), 161, false⟩,
  ⟨169, H.st 46, H.z90, H.z90, (.str H.z49 259), 168, false⟩,
  ⟨176, H.st 47, H.z91, H.z91, (.str H.z49 259), 175, false⟩,
  ⟨190, H.st 49, H.z93, H.z93, (.str H.z49 259), 189, false⟩,
  ⟨197, H.st 50, H.z94, H.z94, (.str H.z49 259), 196, false⟩,
  ⟨204, H.st 51, H.z95, H.z95, (.str H.z49 259), 203, false⟩,
  ⟨232, H.me 57 0, H.z20, H.z118, (.str H.z100 573), 231, true⟩,
  ⟨343, H.me 101 0, H.z20, H.z165, (.str H.z115 627), 342, true⟩,
  ⟨357, H.st 102, H.z159, H.z159, (.str H.z115 627), 356, false⟩,
  ⟨364, H.st 103, H.z160, H.z160, (.str H.z115 627), 363, false⟩,
  ⟨371, H.st 104, H.z161, H.z161, (.str H.z115 627), 370, false⟩,
  ⟨434, H.me 108 0, H.z20, H.z196, (.str H.z162 851), 433, true⟩,
  ⟨441, H.me 108 1, H.z189, H.z197, (.str H.z162 851), 440, false⟩,
  ⟨490, H.st 109, H.z210, H.z210, (.str H.z162 851), 489, false⟩,
  ⟨495, H.st 110, H.z211, H.z211, (.str H.z162 851), 494, false⟩,
  ⟨502, H.st 111, H.z212, H.z212, (.str H.z162 851), 501, false⟩,
  ⟨509, H.st 113, H.z213, H.z213, (.str H.z216 1029), 508, false⟩,
  ⟨516, H.st 114, H.z214, H.z214, (.str H.z216 1029), 515, false⟩,
  ⟨523, H.st 115, H.z215, H.z215, (.str H.z216 1029), 522, false⟩,
  ⟨535, H.me 116 0, H.z180, H.z221, (.str H.z216 1029), 534, false⟩,
  ⟨554, H.me 117 0, H.z180, H.z224, (.str H.z216 1029), 553, false⟩,
  ⟨573, H.me 118 0, H.z180, H.z233, (.str H.z216 1029), 572, false⟩,
  ⟨585, H.st 119, H.z226, H.z226, (.str H.z216 1029), 584, false⟩,
  ⟨670, H.st 136, H.z251, H.z251, (.str H.z232 1134), 669, false⟩,
  ⟨726, H.st 144, H.z266, H.z266, (.str H.z232 1134), 725, false⟩,
  ⟨761, H.st 149, H.z271, H.z271, (.str H.z232 1134), 760, false⟩,
  ⟨768, H.st 150, H.z272, H.z272, (.str H.z232 1134), 767, false⟩,
  ⟨775, H.st 151, H.z273, H.z273, (.str H.z232 1134), 774, false⟩,
  ⟨782, H.st 152, H.z277, H.z277, (.str H.z232 1134), 781, false⟩,
  ⟨796, H.me 154 0, H.z20, H.z287, (.str H.z286 1389), 795, true⟩,
  ⟨812, H.st 158, H.z281, H.z281, (.str H.z283 1425), 811, false⟩,
  ⟨817, H.st 159, H.z282, H.z282, (.str H.z283 1425), 816, false⟩,
  ⟨824, H.st 160, H.z297, H.z297, (.str H.z283 1425), 823, false⟩,
  ⟨831, H.st 161, H.z298, H.z298, (.str H.z283 1425), 830, false⟩,
  ⟨838, H.st 162, H.z299, H.z299, (.str H.z283 1425), 837, false⟩,
  ⟨845, H.st 163, H.z300, H.z300, (.str H.z283 1425), 844, false⟩,
  ⟨852, H.st 164, H.z301, H.z301, (.str H.z283 1425), 851, false⟩,
  ⟨857, H.st 165, H.z302, H.z302, (.str H.z283 1425), 856, false⟩,
  ⟨864, H.st 166, H.z303, H.z303, (.str H.z283 1425), 863, false⟩,
  ⟨869, H.st 167, H.z304, H.z304, (.str H.z283 1425), 868, false⟩,
  ⟨874, H.st 168, H.z305, H.z305, (.str H.z283 1425), 873, false⟩,
  ⟨881, H.st 169, H.z306, H.z306, (.str H.z283 1425), 880, false⟩,
  ⟨888, H.st 170, H.z307, H.z307, (.str H.z283 1425), 887, false⟩,
  ⟨893, H.st 171, H.z308, H.z308, (.str H.z283 1425), 892, false⟩,
  ⟨900, H.st 172, H.z309, H.z309, (.str H.z283 1425), 899, true⟩,
  ⟨907, H.st 173, H.z322, H.z322, (.str H.z283 1425), 906, true⟩]
abbrev a_law_take : Nat := 812
abbrev a_law_concat : Nat := 817
abbrev a_law_text : Nat := 824
abbrev a_law_piece : Nat := 831
abbrev a_law_said : Nat := 838
abbrev a_law_given : Nat := 845
abbrev a_law_as_object : Nat := 852
abbrev a_law_mean : Nat := 857
abbrev a_law_count : Nat := 864
abbrev a_law_bound : Nat := 869
abbrev a_law_run : Nat := 874
abbrev a_law_joinings : Nat := 881
abbrev a_law_is_joining : Nat := 888
abbrev a_law_from_left : Nat := 893
abbrev afold_all : Nat := 782
abbrev afold : Nat := 775
abbrev afold_choice : Nat := 726
abbrev afold_concat : Nat := 768
abbrev aknown : Nat := 670
abbrev atext_part : Nat := 761
abbrev akids_of : Nat := 364
abbrev aparts_at : Nat := 357
abbrev awith_kids : Nat := 371
abbrev alow_expr : Nat := 490
abbrev alow_parts : Nat := 495
abbrev aby_place : Nat := 502
abbrev aboxed : Nat := 509
abbrev ajoined : Nat := 516
abbrev aas_object : Nat := 523
abbrev ais_value : Nat := 197
abbrev ais_var : Nat := 204
abbrev aLow_expr : Nat := 441
abbrev aKindTable_row : Nat := 99
abbrev aLowConcat_low : Nat := 535
abbrev aLowDeleg_low : Nat := 554
abbrev cLow : Nat := 479
abbrev cKindTable : Nat := 109
abbrev cLowConcat : Nat := 538
abbrev cLowDeleg : Nat := 557
abbrev nI (n : Nat) : D := .int (.ofNat n)
noncomputable def gKID_PLACES : D := .dct [nI 4, nI 6, nI 7, nI 8, nI 9, nI 10, nI 11, nI 13, nI 14, nI 15, nI 16, nI 17, nI 18, nI 19, nI 20, nI 21, nI 22, nI 23, nI 25, nI 26, nI 27, nI 28, nI 30, nI 31, nI 33, nI 34, nI 35, nI 36] [.tup [.tup [nI 2, nI 1]], .tup [.tup [nI 2, nI 1], .tup [nI 3, nI 1]], .tup [.tup [nI 2, nI 1]], .tup [.tup [nI 2, nI 2], .tup [nI 4, nI 3]], .tup [.tup [nI 3, nI 3]], .tup [.tup [nI 2, nI 1]], .tup [.tup [nI 2, nI 3]], .tup [.tup [nI 3, nI 1]], .tup [.tup [nI 3, nI 1], .tup [nI 4, nI 1]], .tup [.tup [nI 2, nI 1], .tup [nI 3, nI 1]], .tup [.tup [nI 2, nI 1], .tup [nI 3, nI 1]], .tup [.tup [nI 2, nI 1], .tup [nI 3, nI 1], .tup [nI 4, nI 1]], .tup [.tup [nI 2, nI 1], .tup [nI 3, nI 1]], .tup [.tup [nI 2, nI 1]], .tup [.tup [nI 2, nI 1]], .tup [.tup [nI 2, nI 1]], .tup [.tup [nI 2, nI 1], .tup [nI 3, nI 1]], .tup [.tup [nI 2, nI 1], .tup [nI 3, nI 1]], .tup [.tup [nI 2, nI 2]], .tup [.tup [nI 2, nI 3]], .tup [.tup [nI 3, nI 1], .tup [nI 4, nI 1]], .tup [.tup [nI 3, nI 1]], .tup [.tup [nI 2, nI 1]], .tup [.tup [nI 2, nI 3], .tup [nI 3, nI 1]], .tup [.tup [nI 2, nI 1]], .tup [.tup [nI 2, nI 2], .tup [nI 5, nI 3]], .tup [.tup [nI 3, nI 3]], .tup [.tup [nI 2, nI 2]]]
noncomputable def gTID : D := .dct [nI 20, nI 9, nI 10, nI 11, nI 12, nI 13, nI 14, nI 15, nI 16, nI 17, nI 18, nI 19, nI 1, nI 4] [nI 0, nI 1, nI 2, nI 3, nI 4, nI 5, nI 6, nI 7, nI 8, nI 9, nI 10, nI 11, nI 12, nI 13]
noncomputable def gWORDS : D := .tup [.str H.z294, .str H.z255, .str H.z295, .str H.z296, .none]
noncomputable def gFIRST : D := .tup [nI 3, nI 0, nI 1, nI 0, nI 2, nI 5, nI 4, nI 1, nI 6, nI 1, nI 4, nI 8, nI 1, nI 3, nI 2, nI 0, nI 1, nI 1, nI 1]
noncomputable def globTab : List (Str × D) := [
  (H.z30, nI 0), (H.z31, nI 1), (H.z32, nI 2), (H.z33, nI 3), (H.z34, nI 4), (H.z35, nI 5), (H.z36, nI 6), (H.z37, nI 7), (H.z38, nI 8), (H.z39, nI 9), (H.z40, nI 10), (H.z41, nI 11), (H.z42, nI 12), (H.z43, nI 13), (H.z44, nI 14), (H.z45, nI 15), (H.z46, nI 16), (H.z47, nI 1), (H.z48, nI 2), (H.z50, nI 3), (H.z51, nI 4), (H.z52, nI 5), (H.z53, nI 6), (H.z54, nI 7), (H.z55, nI 8), (H.z56, nI 9), (H.z57, nI 10), (H.z58, nI 11), (H.z59, nI 24), (H.z60, nI 4096), (H.z94, .ref 197), (H.z95, .ref 204), (H.z98, nI 10), (H.z99, nI 20), (H.z107, nI 1), (H.z108, nI 2), (H.z109, nI 4), (H.z110, nI 6), (H.z111, nI 7), (H.z112, nI 8), (H.z113, nI 9), (H.z114, nI 10), (H.z124, nI 11), (H.z125, nI 12), (H.z126, nI 13), (H.z127, nI 14), (H.z128, nI 15), (H.z129, nI 16), (H.z130, nI 17), (H.z131, nI 18), (H.z132, nI 19), (H.z133, nI 20), (H.z134, nI 21), (H.z135, nI 22), (H.z136, nI 23), (H.z137, nI 24), (H.z138, nI 25), (H.z139, nI 26), (H.z140, nI 27), (H.z141, nI 28), (H.z142, nI 30), (H.z143, nI 31), (H.z144, nI 33), (H.z145, nI 34), (H.z146, nI 35), (H.z147, nI 36), (H.z148, nI 1), (H.z149, nI 2), (H.z150, nI 3), (H.z151, nI 4), (H.z152, nI 8), (H.z153, nI 10), (H.z154, nI 1), (H.z155, nI 2), (H.z156, nI 3), (H.z157, gKID_PLACES), (H.z159, .ref 357), (H.z160, .ref 364), (H.z161, .ref 371), (H.z210, .ref 490), (H.z211, .ref 495), (H.z212, .ref 502), (H.z213, .ref 509), (H.z214, .ref 516), (H.z215, .ref 523), (H.z227, nI 220), (H.z228, nI 221), (H.z229, nI 20), (H.z251, .ref 670), (H.z266, .ref 726), (H.z271, .ref 761), (H.z272, .ref 768), (H.z273, .ref 775), (H.z277, .ref 782), (H.z279, gWORDS), (H.z280, gFIRST), (H.z281, .ref 812), (H.z282, .ref 817), (H.z297, .ref 824), (H.z298, .ref 831), (H.z299, .ref 838), (H.z300, .ref 845), (H.z301, .ref 852), (H.z302, .ref 857), (H.z303, .ref 864), (H.z304, .ref 869), (H.z305, .ref 874), (H.z306, .ref 881), (H.z307, .ref 888), (H.z308, .ref 893), (H.z61, gTID), (H.z90, .ref 169), (H.z91, .ref 176), (H.z93, .ref 190), (H.z86, .ref 141), (H.z64, .ref 120), (H.z65, .ref 127), (H.z66, .ref 134), (H.z87, .ref 148), (H.z88, .ref 155), (H.z89, .ref 162), (H.z226, .ref 585), (H.z309, .ref 900)]
noncomputable def biTab : List (Str × D) := [(⟨⟨[nat_lit 108, nat_lit 101, nat_lit 110]⟩⟩, .bi .len), (⟨⟨[nat_lit 114, nat_lit 97, nat_lit 110, nat_lit 103, nat_lit 101]⟩⟩, .bi .range), (⟨⟨[nat_lit 105, nat_lit 115, nat_lit 105, nat_lit 110, nat_lit 115, nat_lit 116, nat_lit 97, nat_lit 110, nat_lit 99, nat_lit 101]⟩⟩, .bi .isinst), (⟨⟨[nat_lit 115, nat_lit 116, nat_lit 114]⟩⟩, .bi .strT), (⟨⟨[nat_lit 99, nat_lit 104, nat_lit 114]⟩⟩, .bi .chr), (⟨⟨[nat_lit 109, nat_lit 97, nat_lit 120]⟩⟩, .bi .max), (⟨⟨[nat_lit 109, nat_lit 105, nat_lit 110]⟩⟩, .bi .min), (⟨⟨[nat_lit 116, nat_lit 117, nat_lit 112, nat_lit 108, nat_lit 101]⟩⟩, .bi .tupleT), (⟨⟨[nat_lit 108, nat_lit 105, nat_lit 115, nat_lit 116]⟩⟩, .bi .listT), (⟨⟨[nat_lit 100, nat_lit 105, nat_lit 99, nat_lit 116]⟩⟩, .bi .dictT)]
noncomputable def methTab : List (Nat × List (Str × Option Addr)) := [(109, [(H.z67, some 99), (H.z82, none), (H.z20, some 92), (H.z68, some 106), (H.z80, none), (H.z79, none), (H.z83, none), (H.z81, none)]),
  (254, [(H.z20, some 232)]),
  (346, [(H.z20, some 343), (H.z163, none)]),
  (479, [(H.z189, some 441), (H.z101, none), (H.z205, none), (H.z174, none), (H.z20, some 434)]),
  (538, [(H.z180, some 535)]),
  (557, [(H.z180, some 554)]),
  (576, [(H.z180, some 573)]),
  (799, [(H.z20, some 796), (H.z101, none)])]
noncomputable def clsTab : List (Str × Addr) := [(H.z63, 109), (H.z106, 254), (H.z158, 346), (H.z278, 799), (H.z188, 479), (H.z183, 416), (H.z220, 538), (H.z222, 557), (H.z225, 576)]
noncomputable def initTab : List (Nat × Option Addr) := [(109, some 92), (254, some 232), (346, some 343), (799, some 796), (479, some 434), (416, none), (538, none), (557, none), (576, none)]
noncomputable def setTab : List (Nat × List (Str × Option Addr)) := [(109, [(H.z82, none), (H.z80, none), (H.z79, none), (H.z83, none), (H.z81, none)]),
  (254, [(H.z82, none)]),
  (346, [(H.z163, none), (H.z164, none), (H.z168, none), (H.z172, none), (H.z170, none), (H.z167, none), (H.z169, none), (H.z171, none), (H.z166, none)]),
  (799, [(H.z101, none), (H.z293, none), (H.z290, none), (H.z291, none), (H.z292, none), (H.z288, none), (H.z289, none)]),
  (479, [(H.z194, none), (H.z163, none), (H.z101, none), (H.z195, none), (H.z174, none), (H.z206, none), (H.z209, none), (H.z205, none), (H.z208, none), (H.z207, none)])]
noncomputable def kAddrs : List Addr := [35, 37, 38, 62, 63, 92, 99, 106, 108, 109, 232, 253, 254, 343, 345, 346, 387, 388, 415, 416, 434, 441, 478, 479, 535, 537, 538, 554, 556, 557, 573, 575, 576, 796, 798, 799]
noncomputable def glob (x : Str) : Option D := sget (biTab ++ globTab) x
noncomputable def natGet {α : Type} : List (Nat × α) → Nat → Option α
  | [], _ => none
  | (k, v) :: r, a => match Nat.beq a k with
    | true => some v
    | false => natGet r a
noncomputable def two2 (t : List (Nat × List (Str × Option Addr))) (C : Addr) (x : Str) : Option (Option Addr) := (natGet t C).bind fun l => sget l x
noncomputable def gG (u tt pm zm : Bool) : Cfg := ⟨u, tt, pm, zm, glob, two2 methTab, sget clsTab, natGet initTab, fun C x => (two2 setTab C x).isSome⟩
noncomputable def fnR (s : Stmt) : FnRec := ⟨(H.fArgs s).args.map (·.arg), H.fBody s, H.fScope s⟩
noncomputable def feGet : List Fe → Nat → Option Fe
  | [], _ => none
  | e :: r, a => match Nat.beq a e.a with
    | true => some e
    | false => feGet r a
noncomputable def fdE (e : Fe) : FuncData := H.fd e.s e.nm e.qn 3 0 e.pm (.ref e.ca)
noncomputable def objE (e : Fe) : Obj := { cls := .type "function", data := .func (fdE e) }
noncomputable def nth2 : List Value → Option Value
  | _ :: b :: _ => some b
  | _ => none
noncomputable def codeB (o : Option Obj) (q : Str) : Bool := bo (o.bind fldOf) fun vs => bo ((nth2 vs).bind strK) (sq q)
noncomputable def chkE (P : Params) (e : Fe) : Bool := fnOk (fnR e.s) && (Nat.ble (fnR e.s).params.length 3 && codeB (gT P e.ca) e.qn)
theorem ftObj (P : Params) : ftab.map (fun e => gT P e.a) = ftab.map fun e => some (objE e) := by kernel_rfl
theorem ftBind (a b c : Value) : ftab.map (fun e => bindArgs (fdE e) ⟨[a, b, c].take (fnR e.s).params.length, []⟩) = ftab.map fun e => pure ((fnR e.s).params.zip ([a, b, c].take (fnR e.s).params.length)) := by kernel_rfl
theorem ftChk (P : Params) : allP (chkE P) ftab = true := by kernel_rfl
theorem feGet_is : ∀ {l : List Fe} {a : Nat} {e : Fe}, feGet l a = some e → e ∈ l ∧ a = e.a
  | [], _, _, h => nn h
  | e' :: r, a, e, h => by
    unfold feGet at h
    cases q : Nat.beq a e'.a with
    | true => rw [q] at h; cases h; exact ⟨List.mem_cons_self, Nat.eq_of_beq_eq_true q⟩
    | false => rw [q] at h; exact (feGet_is h).imp (List.mem_cons_of_mem _) id
theorem fns (w : World) {a : Nat} {e : Fe} (h : feGet ftab a = some e) : FnOk (wd w) a (fnR e.s) := by
  obtain ⟨m, rfl⟩ := feGet_is h
  have h1 := List.map_inj_left.mp (ftObj w.params) e m
  have h0 := allP_is (ftChk w.params) e m
  unfold chkE at h0
  obtain ⟨h2, h3⟩ := Bool.and_eq_true_iff.mp h0
  obtain ⟨h3, h4⟩ := Bool.and_eq_true_iff.mp h3
  have h3 := Nat.le_of_ble_eq_true h3
  refine ⟨⟨_, fdE e, gT_is h1, rfl, rfl, rfl, rfl, rfl, rfl, ?_, fun vals hv => ?_⟩, h2⟩
  · refine bothW h4 fun vs q1 q2 => bothW q2 fun s q3 q4 => ?_
    obtain ⟨o, g1, g2⟩ := Option.bind_eq_some_iff.mp q1
    obtain ⟨v, g3, g4⟩ := Option.bind_eq_some_iff.mp q3
    obtain ⟨t, rfl⟩ := strK_is g4
    cases sq_iff.mp q4
    refine ⟨e.ca, o, ⟨vs⟩, t, rfl, gT_is g1, fldOf_is g2, ?_⟩
    cases vs with
    | nil => exact nn g3
    | cons a vs => cases vs with
      | nil => exact nn g3
      | cons b vs => exact g3
  · have bd := fun a b c => List.map_inj_left.mp (ftBind a b c) e m
    have : ∀ {n : Nat}, n ≤ 3 → vals.length = n → ∃ a b c : Value, vals = [a, b, c].take n := fun {n} l q => by
      subst q
      cases vals with
      | nil => exact ⟨.none, .none, .none, rfl⟩
      | cons a vals => cases vals with
        | nil => exact ⟨a, a, a, rfl⟩
        | cons b vals => cases vals with
          | nil => exact ⟨a, b, b, rfl⟩
          | cons c vals => cases vals with
            | nil => exact ⟨a, b, c, rfl⟩
            | cons => exact absurd l (Nat.not_le_of_lt (Nat.le_add_left 4 _))
    obtain ⟨a, b, c, e2⟩ := this h3 hv
    rw [e2]
    exact bd a b c
noncomputable def isStrE (e : DictEntry) : Bool := (strK e.key).isSome
noncomputable def isNs (P : Params) (a : Nat) : Bool := bo ((gT P a).bind dctOf) (allP isStrE)
noncomputable def esOf (P : Params) (a : Nat) : List DictEntry := ((gT P a).bind dctOf).getD []
theorem ns_of {P : Params} {a : Nat} (h : isNs P a = true) : (H.H1h P).Ns a (lookS (esOf P a)) := by
  refine bothW h fun es q1 q2 => ?_
  have e : esOf P a = es := by unfold esOf; rw [q1]; rfl
  obtain ⟨o, g1, g2⟩ := Option.bind_eq_some_iff.mp q1
  obtain ⟨n, g2⟩ := dctOf_is g2
  refine ⟨o, ⟨es⟩, n, gT_is g1, g2, fun en m => ?_, fun x => by rw [e]; exact lookS_is es x⟩
  obtain ⟨y, hy⟩ := Option.isSome_iff_exists.mp (allP_is q2 en (List.mem_toArray.mp m))
  obtain ⟨t, ht⟩ := strK_is hy
  exact ⟨y, t, ht⟩
theorem d3 (P : Params) : isNs P 3 = true := by kernel_rfl
theorem d0 (P : Params) : isNs P 0 = true := by kernel_rfl
theorem d2 (P : Params) : isNs P 2 = true := by kernel_rfl
noncomputable def biV (v : Value) (d : D) : Bool := match d with
  | .bi b => match b with
    | .len => biIs v "len"
    | .range => tyIs v "range"
    | .isinst => biIs v "isinstance"
    | .strT => tyIs v "str"
    | .chr => biIs v "chr"
    | .max => biIs v "max"
    | .listT => tyIs v "list"
    | .tupleT => tyIs v "tuple"
    | .min => biIs v "min"
    | .dictT => tyIs v "dict"
  | _ => false
theorem biV_is {v : Value} {d : D} (h : biV v d = true) : ∃ b, d = .bi b ∧ v = b.val := by
  cases d with
  | bi b => exact ⟨b, rfl, by cases b <;> first | exact biIs_is h | exact tyIs_is h⟩
  | _ => exact nf h
noncomputable def globB (P : Params) (mg mb : List DictEntry) (p : Str × D) : Bool := !oddName p.1 && match lookS mg p.1 with
  | some v => repB (gT P) 5 v p.2
  | none => bo (lookS mb p.1) fun v => biV v p.2
theorem globOk (P : Params) : allP (globB P (esOf P 3) (esOf P 0)) (biTab ++ globTab) = true := by kernel_rfl
theorem sget_mem {α : Type} : ∀ {l : List (Str × α)} {x : Str} {u : α}, sget l x = some u → (x, u) ∈ l
  | [], _, _, h => nn h
  | (k, v) :: r, x, u, h => by
    unfold sget at h
    cases q : sq x k with
    | true => rw [q] at h; cases h; cases sq_iff.mp q; exact List.mem_cons_self
    | false => rw [q] at h; exact List.mem_cons_of_mem _ (sget_mem h)
theorem natGet_mem {α : Type} : ∀ {l : List (Nat × α)} {x : Nat} {u : α}, natGet l x = some u → (x, u) ∈ l
  | [], _, _, h => nn h
  | (k, v) :: r, x, u, h => by
    unfold natGet at h
    cases q : Nat.beq x k with
    | true => rw [q] at h; cases h; cases Nat.eq_of_beq_eq_true q; exact List.mem_cons_self
    | false => rw [q] at h; exact List.mem_cons_of_mem _ (natGet_mem h)
noncomputable def KK (P : Params) : Frag := kAddrs.filterMap fun a => (gT P a).map fun o => (a, o)
theorem KK_in (P : Params) : (KK P).In (H.H1h P) := by
  intro a o e
  refine gT_is ?_
  have : ∀ {l : List (Addr × Obj)}, l.lookup a = some o → (a, o) ∈ l := fun {l} h => by
    induction l with
    | nil => exact nn h
    | cons p r ih =>
      rw [List.lookup_cons] at h
      cases q : a == p.1 with
      | true => rw [q] at h; cases h; cases eq_of_beq q; exact List.mem_cons_self
      | false => rw [q] at h; exact List.mem_cons_of_mem _ (ih h)
  obtain ⟨b, _, hb⟩ := List.mem_filterMap.mp (this e)
  obtain ⟨o', h1, h2⟩ := Option.map_eq_some_iff.mp hb
  cases h2
  exact h1
noncomputable def hasD (P : Params) (C : Addr) : Bool := (findIn (KK P) (.ref C) "__getattribute__" == some (some (.builtin "object.__getattribute__"))) && (findIn (KK P) (.ref C) "__getattr__" == some none) && hasDictIn (KK P) C
noncomputable def isDef (P : Params) (C : Addr) (x : Str) (f : Addr) : Bool := (findIn (KK P) (.ref C) x == some (some (.ref f))) && (typeIn (KK P) (.ref f) == some (.type "function"))
noncomputable def mOne (P : Params) (C : Addr) (p : Str × Option Addr) : Bool := match p.2 with
  | some f => isDef P C p.1 f && bo (gT P f) isFn
  | none => findIn (KK P) (.ref C) p.1 == some none
noncomputable def mRow (P : Params) (r : Nat × List (Str × Option Addr)) : Bool := hasD P r.1 && allP (mOne P r.1) r.2
noncomputable def sRow (P : Params) (r : Nat × List (Str × Option Addr)) : Bool := (findIn (KK P) (.ref r.1) "__setattr__" == some (some (.builtin "object.__setattr__"))) && plainOver (KK P) r.1 && (clsIn (KK P) r.1).any (·.hasDict) && allP (fun p => takerIn (KK P) r.1 p.1 == some none) r.2
noncomputable def cRow (P : Params) (r : Nat × Option Addr) : Bool := makesIn (KK P) r.1 && keepIn (KK P) (.ref r.1) && match r.2 with
  | some f => isDef P r.1 "__init__" f
  | none => findIn (KK P) (.ref r.1) "__init__" == some (some (.builtin "object.__init__"))
noncomputable def gRow (mg : List DictEntry) (p : Str × Addr) : Bool := !oddName p.1 && (bo ((lookS mg p.1).bind refOf) (fun a => Nat.beq a p.2) && (natGet initTab p.2).isSome)
theorem mAll (P : Params) : allP (mRow P) methTab = true := by kernel_rfl
theorem sAll (P : Params) : allP (sRow P) setTab = true := by kernel_rfl
theorem cAll (P : Params) : allP (cRow P) initTab = true := by kernel_rfl
theorem gAll (P : Params) : allP (gRow (esOf P 3)) clsTab = true := by kernel_rfl
theorem noLim (P : Params) : lookS (esOf P 2) "sys.recursionlimit" = none := by kernel_rfl
theorem sysB (P : Params) : (gT P sysModules).isSome = true := by kernel_rfl
theorem two2_is {f : Nat × List (Str × Option Addr) → Bool} {t : List (Nat × List (Str × Option Addr))} (ha : allP f t = true) {C : Addr} {x : Str} {r : Option Addr} (h : two2 t C x = some r) : ∃ l, f (C, l) = true ∧ (x, r) ∈ l :=
  bindW h fun l h1 h2 => ⟨l, allP_is ha _ (natGet_mem h1), sget_mem h2⟩
theorem m_is {P : Params} {C : Addr} {x : Str} {r : Option Addr} (h : two2 methTab C x = some r) : hasD P C = true ∧ mOne P C (x, r) = true := by
  obtain ⟨l, h1, h2⟩ := two2_is (mAll P) h
  unfold mRow at h1
  obtain ⟨a, b⟩ := Bool.and_eq_true_iff.mp h1
  exact ⟨a, allP_is b _ h2⟩
theorem g_is {P : Params} {x : Str} {C : Addr} (h : sget clsTab x = some C) : (x == ("__debug__" : Str)) = false ∧ (∃ mg, (H.H1h P).Ns mainGlobals mg ∧ mg x = some (.ref C)) ∧ ∃ r, natGet initTab C = some r := by
  have h0 := allP_is (gAll P) _ (sget_mem h)
  unfold gRow at h0
  obtain ⟨h1, h2⟩ := Bool.and_eq_true_iff.mp h0
  obtain ⟨h2, h3⟩ := Bool.and_eq_true_iff.mp h2
  refine bothW h2 fun a e q => ?_
  obtain ⟨v, e1, e2⟩ := Option.bind_eq_some_iff.mp e
  have e3 : lookS (esOf P 3) x = some (.ref C) := by rw [show lookS (esOf P 3) x = some v from e1, refOf_is e2, Nat.eq_of_beq_eq_true q]
  exact ⟨(oddName_of (Bool.not_eq_true' _ ▸ h1)).1, ⟨_, ns_of (d3 P), e3⟩, Option.isSome_iff_exists.mp h3⟩
theorem gk (w : World) (u tt pm zm : Bool) : Gk (wd w) (gG u tt pm zm) where
  nolimit := ⟨_, ns_of (d2 w.params), noLim w.params⟩
  sysIn := let ⟨o, e⟩ := Option.isSome_iff_exists.mp (sysB w.params); ⟨o, gT_is e⟩
  globOk := fun x d h => by
    have h0 := allP_is (globOk w.params) (x, d) (sget_mem h)
    unfold globB at h0
    obtain ⟨h1, h2⟩ := Bool.and_eq_true_iff.mp h0
    refine ⟨(oddName_of (Bool.not_eq_true' _ ▸ h1)).1, ?_⟩
    cases e1 : lookS (esOf w.params 3) x with
    | some v =>
      dsimp only at h2
      rw [e1] at h2
      exact ⟨v, ⟨_, _, ns_of (d3 w.params), ns_of (d0 w.params), .inl e1⟩, fun M N h' ext off => repB_is (X := wd w) (g := gT w.params) (fun a o e => gT_is e) ext off 5 v d h2⟩
    | none =>
      dsimp only at h2
      rw [e1] at h2
      refine bothW h2 fun v e2 h2 => ?_
      obtain ⟨b, rfl, hb⟩ := biV_is h2
      exact ⟨v, ⟨_, _, ns_of (d3 w.params), ns_of (d0 w.params), .inr ⟨e1, e2⟩⟩, fun M N h' ext off => hb⟩
  methOk := fun C x a h A s p ox es n pl Q E base I g hQ => by
    obtain ⟨h1, h2⟩ := m_is (P := w.params) h
    unfold hasD at h1
    unfold mOne isDef at h2
    obtain ⟨h1, _⟩ := Bool.and_eq_true_iff.mp h1
    obtain ⟨k1, k2⟩ := Bool.and_eq_true_iff.mp h1
    obtain ⟨h2, _⟩ := Bool.and_eq_true_iff.mp h2
    obtain ⟨k3, k4⟩ := Bool.and_eq_true_iff.mp h2
    exact method_fn ((KK_in w.params).keeps base) I (beq_iff_eq.mp k1) (beq_iff_eq.mp k2) (beq_iff_eq.mp k3) (beq_iff_eq.mp k4) (by show (lookIn x (dictOf es n)).map _ = _; rw [lookIn_dict, g]; rfl) hQ
  getOk := fun C x h A s p ox es n v ex Q E base I g hv hQ => by
    obtain ⟨h1, h2⟩ := m_is (P := w.params) h
    unfold hasD at h1
    unfold mOne at h2
    obtain ⟨h1, k0⟩ := Bool.and_eq_true_iff.mp h1
    obtain ⟨k1, k2⟩ := Bool.and_eq_true_iff.mp h1
    exact get_value ((KK_in w.params).keeps base) I (beq_iff_eq.mp k1) (findObj_own k0 (beq_iff_eq.mp h2) rfl (by rw [lookIn_dict]; exact g)) hv hQ
  methFn := fun C x a h => by
    obtain ⟨h1, h2⟩ := m_is (P := w.params) h
    unfold mOne at h2
    obtain ⟨_, h2⟩ := Bool.and_eq_true_iff.mp h2
    exact bothW h2 fun o e q => let ⟨fd, hf⟩ := isFn_is q; ⟨o, fd, gT_is e, hf⟩
  own := by
    refine ⟨KK w.params, KK_in w.params, fun C x h => ?_, fun C r h => ?_⟩
    · obtain ⟨r, hr⟩ := Option.isSome_iff_exists.mp h
      obtain ⟨l, h1, h2⟩ := two2_is (sAll w.params) hr
      unfold sRow at h1
      obtain ⟨a1, a2⟩ := Bool.and_eq_true_iff.mp h1
      obtain ⟨a1, a3⟩ := Bool.and_eq_true_iff.mp a1
      obtain ⟨a1, a4⟩ := Bool.and_eq_true_iff.mp a1
      have a5 := allP_is a2 (x, r) h2
      dsimp only at a5
      exact ⟨beq_iff_eq.mp a1, a4, beq_iff_eq.mp a5, a3⟩
    · have h1 := allP_is (cAll w.params) _ (natGet_mem h)
      unfold cRow at h1
      obtain ⟨a1, a3⟩ := Bool.and_eq_true_iff.mp h1
      obtain ⟨a1, a2⟩ := Bool.and_eq_true_iff.mp a1
      refine ⟨a1, a2, ?_⟩
      cases r with
      | some f =>
        dsimp only at a3
        unfold isDef at a3
        obtain ⟨b1, b2⟩ := Bool.and_eq_true_iff.mp a3
        exact ⟨beq_iff_eq.mp b1, beq_iff_eq.mp b2⟩
      | none => exact beq_iff_eq.mp a3
  gcls := fun x C h => g_is h
end Mine
end
noncomputable section
namespace Mine
open PySem PySem.W
abbrev Res := D × List Cell
noncomputable def endO (r : Res) : Out := (some (.dat r.1), [], ⟨r.2, []⟩)
noncomputable def CF (w : World) (m : Nat) (a : Addr) (args : List D) (pi : List Cell) (r : Res) : Prop := CallOk (wd w) (m + m) a args pi r.1 r.2
noncomputable def RunC (w : World) (m : Nat) (t : Tr) (R : Out) : Prop := Run (CallOk (wd w) (m + m)) t R
abbrev Runs (w : World) (m : Nat) (t : Tr) (r : Res) : Prop := RunC w m t (endO r)
noncomputable def asks : Tr → Option (Addr × List D × List Cell)
  | .ask a args pi _ => some (a, args, pi)
  | _ => none
noncomputable def feed (t : Tr) (d : D) (pi : List Cell) : Tr := match t with
  | .ask _ _ _ k => k d pi
  | _ => .fail
noncomputable def needs : Tr → Option Bool
  | .need b _ => some b
  | _ => none
noncomputable def feedN : Tr → Tr
  | .need _ k => k
  | _ => .fail
noncomputable def tests : Tr → Option Bool
  | .test b _ => some b
  | _ => none
noncomputable def feedB (t : Tr) (b : Bool) : Tr := match t with
  | .test _ k => k b
  | _ => .fail
noncomputable def prims : Tr → Option (Option D)
  | .prim x _ => some x
  | _ => none
noncomputable def feedP (t : Tr) (d : D) : Tr := match t with
  | .prim _ k => k d
  | _ => .fail
noncomputable def lress : Tr → Option (Option (D × List D))
  | .lres x _ => some x
  | _ => none
noncomputable def feedR (t : Tr) (d : D × List D) : Tr := match t with
  | .lres _ k => k d
  | _ => .fail
noncomputable def ends : Tr → Option Out
  | .done o => some o
  | _ => none
noncomputable def feedO (t : Tr) (o : Out) : Tr := match t with
  | .loop _ _ _ _ k => k o
  | .wl _ _ _ _ _ k => k o
  | _ => .fail
noncomputable def loops : Tr → Option (List D × Rho × St)
  | .loop _ l ρ σ _ => some (l, ρ, σ)
  | _ => none
noncomputable def turnL (t : Tr) (d : D) (ρ : Rho) (σ : St) : Tr := match t with
  | .loop b _ _ _ _ => b d ρ σ
  | _ => .fail
noncomputable def wls : Tr → Option (Nat × Rho × St)
  | .wl _ _ n ρ σ _ => some (n, ρ, σ)
  | _ => none
noncomputable def turnT (t : Tr) (ρ : Rho) (σ : St) : Tr := match t with
  | .wl t _ _ _ _ _ => t ρ σ
  | _ => .fail
noncomputable def turnB (t : Tr) (ρ : Rho) (σ : St) : Tr := match t with
  | .wl _ b _ _ _ _ => b ρ σ
  | _ => .fail
section
variable {w : World} {m : Nat} {t : Tr} {R : Out}
theorem st {a : Addr} {args : List D} {pi pi' : List Cell} {d : D} (h1 : asks t = some (a, args, pi)) (h2 : CF w m a args pi (d, pi')) (h3 : RunC w m (feed t d pi') R) : RunC w m t R := by
  cases t with
  | ask => cases h1; exact ⟨_, _, h2, h3⟩
  | _ => exact nn h1
theorem sn {b : Bool} (h1 : needs t = some b) (h2 : b = true) (h3 : RunC w m (feedN t) R) : RunC w m t R := by
  cases t with
  | need => cases h1; exact ⟨h2, h3⟩
  | _ => exact nn h1
theorem sb {b : Bool} (c : Bool) (h1 : tests t = some b) (h2 : b = c) (h3 : RunC w m (feedB t c) R) : RunC w m t R := by
  cases t with
  | test => cases h1; subst h2; exact h3
  | _ => exact nn h1
theorem sp {x : Option D} (d : D) (h1 : prims t = some x) (h2 : x = some d) (h3 : RunC w m (feedP t d) R) : RunC w m t R := by
  cases t with
  | prim => cases h1; exact ⟨_, h2, h3⟩
  | _ => exact nn h1
theorem sr {x : Option (D × List D)} (d : D × List D) (h1 : lress t = some x) (h2 : x = some d) (h3 : RunC w m (feedR t d) R) : RunC w m t R := by
  cases t with
  | lres => cases h1; exact ⟨_, h2, h3⟩
  | _ => exact nn h1
theorem fn (h : ends t = some R) : RunC w m t R := by
  cases t with
  | done => exact Option.some.inj h
  | _ => exact nn h
theorem sl_ {l : List D} {ρ : Rho} {σ : St} {o : Out} (h1 : loops t = some (l, ρ, σ)) (h2 : loopF (fun d ρ σ o => RunC w m (turnL t d ρ σ) o) l ρ σ o) (h3 : RunC w m (feedO t o) R) : RunC w m t R := by
  cases t with
  | loop => cases h1; exact ⟨o, h2, h3⟩
  | _ => exact nn h1
theorem sw {n : Nat} {ρ : Rho} {σ : St} {o : Out} (h1 : wls t = some (n, ρ, σ)) (h2 : loopW (fun ρ σ o => RunC w m (turnT t ρ σ) o) (fun ρ σ o => RunC w m (turnB t ρ σ) o) n ρ σ o) (h3 : RunC w m (feedO t o) R) : RunC w m t R := by
  cases t with
  | wl => cases h1; exact ⟨o, h2, h3⟩
  | _ => exact nn h1
noncomputable def Bu (u tt pm : Bool) (a : Addr) (args : List D) (pi : List Cell) : Tr := lift (feGet ftab a) fun e => bodyT (gG u tt pm e.z) 60 (fnR e.s) args pi
abbrev B := Bu true false false
abbrev BT := Bu true true true
abbrev BP := Bu true false true
theorem ofRuns {u tt pm : Bool} {a : Addr} {args : List D} {pi : List Cell} {r : Res} (h : Runs w m (Bu u tt pm a args pi) r) : CF w (m + 1) a args pi r := by
  have e : m + 1 + (m + 1) = m + m + 2 := by rw [Nat.add_add_add_comm]
  unfold CF
  rw [e]
  exact liftW h fun e he h => call_of (gk w u tt pm e.z) (fns w he) h
theorem up {k : Nat} {a : Addr} {args : List D} {pi : List Cell} {r : Res} (h : CF w m a args pi r) (l : m ≤ k) : CF w k a args pi r := CallOk.le h (Nat.add_le_add l l)
end
noncomputable def adv : Nat → Tr → Tr
  | 0, t => t
  | n + 1, t => match t with
    | .need b k => onB b (adv n k)
    | .test b k => adv n (k b)
    | .prim x k => lift x fun d => adv n (k d)
    | .lres x k => lift x fun d => adv n (k d)
    | t => t
theorem sA {w : World} {m : Nat} {R : Out} : ∀ (n : Nat) {t : Tr}, RunC w m (adv n t) R → RunC w m t R
  | 0, _, h => h
  | n + 1, t, h => by
    cases t with
    | need b k => exact onBW h fun q h => ⟨q, sA n h⟩
    | test b k => exact sA n (t := k b) h
    | prim x k => exact liftW h fun d q h => ⟨d, q, sA n h⟩
    | lres x k => exact liftW h fun d q h => ⟨d, q, sA n h⟩
    | _ => exact h
theorem re {w : World} {m : Nat} {t t' : Tr} {R : Out} (h : t = t') (r : RunC w m t' R) : RunC w m t R := h ▸ r
noncomputable def outR (o : Out) : Option Res := match o.1 with
  | some v => match v with
    | .dat d => match o.2.1 with
      | [] => match o.2.2.lc with
        | [] => some (d, o.2.2.pi)
        | _ => none
      | _ => none
    | _ => none
  | none => none
noncomputable def au (call : Addr → List D → List Cell → Option Res) : Tr → Option Res
  | .fail => none
  | .done o => outR o
  | .ask a args pi k => (call a args pi).bind fun r => au call (k r.1 r.2)
  | .need b k => onO b (au call k)
  | .test b k => au call (k b)
  | .prim x k => x.bind fun d => au call (k d)
  | .lres x k => x.bind fun d => au call (k d)
  | .wl _ _ _ _ _ _ => none
  | .loop _ _ _ _ _ => none
noncomputable def callA : Nat → Addr → List D → List Cell → Option Res
  | 0, _, _, _ => none
  | m + 1, a, args, pi => au (callA m) (B a args pi)
theorem outR_is {o : Out} {r : Res} (h : outR o = some r) : o = endO r := by
  obtain ⟨v, ρ, pi, lc⟩ := o
  cases v with
  | none => exact nn h
  | some v => cases v with
    | loc => exact nn h
    | dat d => cases ρ with
      | cons => exact nn h
      | nil => cases lc with
        | cons => exact nn h
        | nil => cases h; rfl
theorem au_run {w : World} {m : Nat} {call : Addr → List D → List Cell → Option Res} (hc : ∀ a args pi r, call a args pi = some r → CF w m a args pi r) : ∀ (t : Tr) {r : Res}, au call t = some r → Runs w m t r := fun t => by
  induction t with
  | done o => exact fun h => outR_is h
  | ask a args pi k ih => exact fun h => bindW h fun r' h1 h => ⟨_, _, hc _ _ _ _ h1, ih _ _ h⟩
  | need b k ih => exact fun h => onOW h fun h1 h => ⟨h1, ih h⟩
  | test b k ih => exact fun h => ih _ h
  | prim x k ih => exact fun h => bindW h fun d h1 h => ⟨_, h1, ih _ h⟩
  | lres x k ih => exact fun h => bindW h fun d h1 h => ⟨_, h1, ih _ h⟩
  | _ => exact fun h => nn h
theorem ca {w : World} : ∀ {m : Nat} {a : Addr} {args : List D} {pi : List Cell} {r : Res}, callA m a args pi = some r → CF w m a args pi r
  | 0, _, _, _, _, h => nn h
  | _ + 1, _, _, _, _, h => ofRuns (au_run (fun _ _ _ _ h => ca h) _ h)
noncomputable def advC (j : Nat) : Nat → Tr → Tr
  | 0, t => t
  | n + 1, t => match t with
    | .ask a args pi k => lift (callA j a args pi) fun r => advC j n (k r.1 r.2)
    | .need b k => onB b (advC j n k)
    | .test b k => advC j n (k b)
    | .prim x k => lift x fun d => advC j n (k d)
    | .lres x k => lift x fun d => advC j n (k d)
    | t => t
theorem sC {w : World} {m j : Nat} {R : Out} (h5 : j ≤ m) : ∀ (n : Nat) {t : Tr}, RunC w m (advC j n t) R → RunC w m t R
  | 0, _, h => h
  | n + 1, t, h => by
    cases t with
    | ask a args pi k => exact liftW h fun r q h => ⟨_, _, up (ca q) h5, sC h5 n h⟩
    | need b k => exact onBW h fun q h => ⟨q, sC h5 n h⟩
    | test b k => exact sC h5 n (t := k b) h
    | prim x k => exact liftW h fun d q h => ⟨d, q, sC h5 n h⟩
    | lres x k => exact liftW h fun d q h => ⟨d, q, sC h5 n h⟩
    | _ => exact h
end Mine
end
noncomputable section
namespace Mine
open PySem PySem.W
noncomputable def firstL : List Int := [3, 0, 1, 0, 2, 5, 4, 1, 6, 1, 4, 8, 1, 3, 2, 0, 1, 1, 1]
noncomputable def drawn (sc : List Int) (q : Nat) : Int := match sc[q]? with
  | some n => n
  | none => match firstL[q]? with
    | some n => n
    | none => 5 * (q : Int) + 3
noncomputable def dC (rest : List Cell) (sc : List Int) (q : Nat) (b : Int) : List Cell := .lst [.lst (sc.map D.int), nI q, .int b] :: rest
theorem ndt {a b : Nat} (h : a < b) : (!decide (Int.ofNat b ≤ Int.ofNat a)) = true := by simpa using h
theorem ndf {a b : Nat} (h : b ≤ a) : (!decide (Int.ofNat b ≤ Int.ofNat a)) = false := by simpa using h
section
variable {w : World} {sc : List Int} {q : Nat} {b : Int} {rest : List Cell}
theorem take_ok (c : Nat) : CF w 1 a_law_take [.cell 0, nI (c + 1)] (dC rest sc q b) (.int (Int.fmod (drawn sc q) (.ofNat (c + 1))), dC rest sc (q + 1) b) := by
  have it : ∀ l : List Int, (l.map D.int)[q]? = (l[q]?).map D.int := fun l => List.getElem?_map
  refine ofRuns (u := true) (tt := true) (pm := true) ?_
  refine sp (nI q) (by kernel_rfl) rfl ?_
  refine sp (nI q) (by kernel_rfl) rfl (sp (.lst (sc.map D.int)) (by kernel_rfl) rfl ?_)
  by_cases h1 : q < sc.length
  · refine sb true (by kernel_rfl) (ndt (b := (sc.map D.int).length) (by rw [List.length_map]; exact h1)) ?_
    refine sp (.lst (sc.map D.int)) (by kernel_rfl) rfl (sp (nI q) (by kernel_rfl) rfl ?_)
    refine sp (.int sc[q]) (by kernel_rfl) ((it sc).trans (by rw [List.getElem?_eq_getElem h1]; rfl)) (sp (nI q) (by kernel_rfl) rfl ?_)
    have e : drawn sc q = sc[q] := by unfold drawn; rw [List.getElem?_eq_getElem h1]
    rw [e]
    exact fn (by kernel_rfl)
  · have h1 := Nat.le_of_not_lt h1
    refine sb false (by kernel_rfl) (ndf (b := (sc.map D.int).length) (by rw [List.length_map]; exact h1)) (sp (nI q) (by kernel_rfl) rfl ?_)
    by_cases h2 : q < 19
    · have h2' : q < firstL.length := h2
      refine sb true (by kernel_rfl) (ndt (b := 19) h2) (sp (nI q) (by kernel_rfl) rfl ?_)
      refine sp (.int firstL[q]) (by kernel_rfl) ((it firstL).trans (by rw [List.getElem?_eq_getElem h2']; rfl)) (sp (nI q) (by kernel_rfl) rfl ?_)
      have e : drawn sc q = firstL[q] := by unfold drawn; rw [List.getElem?_eq_none h1, List.getElem?_eq_getElem h2']
      rw [e]
      exact fn (by kernel_rfl)
    · have h2 := Nat.le_of_not_lt h2
      refine sb false (by kernel_rfl) (ndf (b := 19) h2) (sp (nI q) (by kernel_rfl) rfl ?_)
      have e : drawn sc q = 5 * (q : Int) + 3 := by unfold drawn; rw [List.getElem?_eq_none h1, List.getElem?_eq_none h2]
      rw [e]
      exact fn (by kernel_rfl)
theorem take_any (w : World) (sc : List Int) (q : Nat) (b : Int) (c : Nat) : ∃ r, r < c + 1 ∧ ∀ rest, CF w 1 a_law_take [.cell 0, nI (c + 1)] (dC rest sc q b) (nI r, dC rest sc (q + 1) b) := by
  have h := fun rest => take_ok (w := w) (sc := sc) (q := q) (b := b) (rest := rest) c
  have p : (0 : Int) < .ofNat (c + 1) := Int.ofNat_lt.mpr (Nat.succ_pos c)
  have h1 := Int.fmod_nonneg_of_pos (drawn sc q) p
  have h2 := Int.fmod_lt_of_pos (drawn sc q) p
  generalize Int.fmod (drawn sc q) (.ofNat (c + 1)) = i at h h1 h2
  cases i with
  | ofNat r => exact ⟨r, Int.ofNat_lt.mp h2, h⟩
  | negSucc r => exact absurd h1 (Int.not_le.mpr (Int.negSucc_lt_zero r))
theorem take_of (c : Nat) : ∃ r, r < c + 1 ∧ CF w 1 a_law_take [.cell 0, nI (c + 1)] (dC rest sc q b) (nI r, dC rest sc (q + 1) b) :=
  have ⟨r, h, f⟩ := take_any w sc q b c
  ⟨r, h, f rest⟩
end
end Mine
end
noncomputable section
namespace Mine
open PySem PySem.W
inductive T where
  | txt (w : Option Str)
  | null
  | num (i : Int)
  | loc (i : Nat)
  | set (t : T)
  | call (o : Bool) (n : Nat)
  | cond (c : Nat) (a b : T)
  | deleg (i : Nat)
  | join (l : List T)
noncomputable def sJoin : Str := ⟨⟨[nat_lit 106, nat_lit 111, nat_lit 105, nat_lit 110]⟩⟩
noncomputable def sConst : Str := ⟨⟨[nat_lit 99, nat_lit 111, nat_lit 110, nat_lit 115, nat_lit 116]⟩⟩
noncomputable def sLocal : Str := ⟨⟨[nat_lit 108, nat_lit 111, nat_lit 99, nat_lit 97, nat_lit 108]⟩⟩
noncomputable def sSet : Str := ⟨⟨[nat_lit 115, nat_lit 101, nat_lit 116]⟩⟩
noncomputable def sCall : Str := ⟨⟨[nat_lit 99, nat_lit 97, nat_lit 108, nat_lit 108]⟩⟩
noncomputable def sCond : Str := ⟨⟨[nat_lit 99, nat_lit 111, nat_lit 110, nat_lit 100]⟩⟩
noncomputable def sDeleg : Str := ⟨⟨[nat_lit 100, nat_lit 101, nat_lit 108, nat_lit 101, nat_lit 103]⟩⟩
noncomputable def optD : Option Str → D
  | none => .none
  | some s => .str s
noncomputable def kO (o : Bool) : Nat := match o with
  | true => 12
  | false => 13
mutual
noncomputable def enc : T → D
  | .txt w => .tup [.str sConst, nI 13, optD w]
  | .null => .tup [.str sConst, nI 12, .none]
  | .num i => .tup [.str sConst, nI 7, .int i]
  | .loc i => .tup [.str sLocal, nI i]
  | .set t => .tup [.str sSet, nI 1, enc t]
  | .call o n => .tup [.str sCall, nI (kO o), nI n]
  | .cond c a b => .tup [.str sCond, nI c, enc a, enc b]
  | .deleg i => .tup [.str sDeleg, nI i]
  | .join l => .tup [.str sJoin, .lst (encs l)]
noncomputable def encs : List T → List D
  | [] => []
  | t :: r => enc t :: encs r
end
noncomputable def isX : T → Bool
  | .txt _ => true
  | .loc i => Nat.beq i 1
  | .call o _ => !o
  | .join _ => true
  | _ => false
mutual
noncomputable def pc : T → Nat
  | .set t => tc t + 1
  | .cond _ a b => tc a + tc b + 1
  | .join l => pcs l + 1
  | _ => 1
noncomputable def pcs : List T → Nat
  | [] => 0
  | t :: r => pc t + pcs r
noncomputable def tc : T → Nat
  | .join l => pcs l + 1
  | _ => 0
end
noncomputable def dN : Nat → Nat
  | 0 => 0
  | 1 => 2
  | 2 => 3
  | 3 => 6
  | _ => 7
inductive OkT : Nat → T → Prop
  | txt {n : Nat} {w : Option Str} : (∀ s, w = some s → s.length ≤ 2) → OkT (n + 1) (.txt w)
  | null {n : Nat} : OkT (n + 1) .null
  | num {n i : Nat} : i < 3 → OkT (n + 1) (.num (.ofNat i - 1))
  | loc {n i : Nat} : i < 8 → OkT (n + 1) (.loc (i + 1))
  | set {n : Nat} {t : T} : OkT n t → isX t = true → OkT (n + 1) (.set t)
  | call {n k : Nat} {o : Bool} : k < 4 → OkT (n + 1) (.call o k)
  | cond {n c : Nat} {a b : T} : c < 3 → OkT n a → isX a = true → OkT n b → isX b = true → OkT (n + 1) (.cond c a b)
  | deleg {n i : Nat} : i < 5 → OkT (n + 1) (.deleg (dN i))
  | join {n : Nat} {l : List T} : (∀ t ∈ l, OkT n t) → 1 ≤ l.length → l.length ≤ 4 → OkT (n + 1) (.join l)
section
variable {P : Nat → Prop} {r : Nat}
theorem lt0 (h : r < 0) : P r := absurd h (Nat.not_lt_zero _)
theorem ltS {n : Nat} (h : r < n + 1) (p0 : P 0) (p : ∀ r, r < n → P (r + 1)) : P r := by
  cases r with
  | zero => exact p0
  | succ r => exact p r (Nat.lt_of_succ_lt_succ h)
theorem lt3 (h : r < 3) (p0 : P 0) (p1 : P 1) (p2 : P 2) : P r := ltS (P := fun r => P (r + 0)) h p0 fun _ h => ltS (P := fun r => P (r + 1)) h p1 fun _ h => ltS (P := fun r => P (r + 2)) h p2 fun _ h => lt0 (P := fun r => P (r + 3)) h
theorem lt4 (h : r < 4) (p0 : P 0) (p1 : P 1) (p2 : P 2) (p3 : P 3) : P r := ltS (P := fun r => P (r + 0)) h p0 fun _ h => ltS (P := fun r => P (r + 1)) h p1 fun _ h => ltS (P := fun r => P (r + 2)) h p2 fun _ h => ltS (P := fun r => P (r + 3)) h p3 fun _ h => lt0 (P := fun r => P (r + 4)) h
theorem lt5 (h : r < 5) (p0 : P 0) (p1 : P 1) (p2 : P 2) (p3 : P 3) (p4 : P 4) : P r := ltS (P := fun r => P (r + 0)) h p0 fun _ h => ltS (P := fun r => P (r + 1)) h p1 fun _ h => ltS (P := fun r => P (r + 2)) h p2 fun _ h => ltS (P := fun r => P (r + 3)) h p3 fun _ h => ltS (P := fun r => P (r + 4)) h p4 fun _ h => lt0 (P := fun r => P (r + 5)) h
theorem lt8 (h : r < 8) (p0 : P 0) (p1 : P 1) (p2 : P 2) (p3 : P 3) (p4 : P 4) (p5 : P 5) (p6 : P 6) (p7 : P 7) : P r := ltS (P := fun r => P (r + 0)) h p0 fun _ h => ltS (P := fun r => P (r + 1)) h p1 fun _ h => ltS (P := fun r => P (r + 2)) h p2 fun _ h => lt5 (P := fun r => P (r + 3)) h p3 p4 p5 p6 p7
theorem lt14 (h : r < 14) (p0 : P 0) (p1 : P 1) (p2 : P 2) (p3 : P 3) (p4 : P 4) (p5 : P 5) (p6 : P 6) (p7 : P 7) (p8 : P 8) (p9 : P 9) (p10 : P 10) (p11 : P 11) (p12 : P 12) (p13 : P 13) : P r := ltS (P := fun r => P (r + 0)) h p0 fun _ h => ltS (P := fun r => P (r + 1)) h p1 fun _ h => ltS (P := fun r => P (r + 2)) h p2 fun _ h => ltS (P := fun r => P (r + 3)) h p3 fun _ h => ltS (P := fun r => P (r + 4)) h p4 fun _ h => ltS (P := fun r => P (r + 5)) h p5 fun _ h => lt8 (P := fun r => P (r + 6)) h p6 p7 p8 p9 p10 p11 p12 p13
end
theorem pieces {P : List T → Prop} {l : List T} (h1 : 1 ≤ l.length) (h4 : l.length ≤ 4) (p1 : ∀ a, P [a]) (p2 : ∀ a b, P [a, b]) (p3 : ∀ a b c, P [a, b, c]) (p4 : ∀ a b c d, P [a, b, c, d]) : P l := by
  cases l with
  | nil => exact absurd h1 (Nat.not_succ_le_zero _)
  | cons a l => cases l with
    | nil => exact p1 a
    | cons b l => cases l with
      | nil => exact p2 a b
      | cons c l => cases l with
        | nil => exact p3 a b c
        | cons d l => cases l with
          | nil => exact p4 a b c d
          | cons => exact absurd h4 (Nat.not_le_of_lt (Nat.le_add_left 5 _))
noncomputable def wd5 : Nat → Option Str
  | 0 => some H.z294
  | 1 => some H.z255
  | 2 => some H.z295
  | 3 => some H.z296
  | _ => none
theorem word_it {r : Nat} (h : r < 5) : item (.dat gWORDS) (nI r) ⟨[], []⟩ = some (optD (wd5 r)) := lt5 (P := fun r => item (.dat gWORDS) (nI r) ⟨[], []⟩ = some (optD (wd5 r))) h (by kernel_rfl) (by kernel_rfl) (by kernel_rfl) (by kernel_rfl) (by kernel_rfl)
theorem word_ok {n r : Nat} (h : r < 5) : OkT (n + 1) (.txt (wd5 r)) := .txt (lt5 (P := fun r => ∀ s, wd5 r = some s → s.length ≤ 2) h (fun s e => by cases e; exact Nat.le_of_ble_eq_true (by kernel_rfl)) (fun s e => by cases e; exact Nat.le_of_ble_eq_true (by kernel_rfl)) (fun s e => by cases e; exact Nat.le_of_ble_eq_true (by kernel_rfl)) (fun s e => by cases e; exact Nat.le_of_ble_eq_true (by kernel_rfl)) (fun s e => nn e))
section
variable {w : World} {sc : List Int}
noncomputable def Dr (w : World) (sc : List Int) (m a : Nat) (k : Nat) (f : T → Nat) (c n : Nat) (p : Int) (q : Nat) (b : Int) (g : T → Prop) : Prop :=
  ∃ t q' b', CF w m a [.cell 0, nI k] (dC [] sc q b) (enc t, dC [] sc q' b') ∧ b' = b - f t ∧ OkT n t ∧ g t ∧ (b ≤ 0 → f t = c) ∧ (0 < b → (f t : Int) ≤ b + p)
abbrev DP (w : World) (sc : List Int) (m k n : Nat) (p : Int) : Prop := ∀ q b, Dr w sc m a_law_piece k pc 1 n p q b fun _ => True
abbrev DT (w : World) (sc : List Int) (m k n : Nat) (p : Int) : Prop := ∀ q b, Dr w sc m a_law_text k tc 0 n p q b fun t => isX t = true
noncomputable def DCt (w : World) (sc : List Int) (m k n : Nat) (p : Int) : Prop := ∀ q b, 0 ≤ b → ∃ l q' b', CF w m a_law_concat [.cell 0, nI k] (dC [] sc q b) (enc (.join l), dC [] sc q' b') ∧ b' = b - pcs l ∧ OkT n (.join l) ∧ (pcs l : Int) ≤ b + p
theorem concat_ok {m k n : Nat} {p : Int} (hp : 0 ≤ p) (hm : 1 ≤ m) (D : DP w sc m (k + 1) n p) : DCt w sc (m + 1) k (n + 1) (p + 4) := by
  intro q b hb
  obtain ⟨r, hr, ht⟩ := take_of (w := w) (sc := sc) (q := q) (b := b) (rest := []) 3
  have ht := up ht hm
  obtain ⟨t1, q1, b1, e1, f1, o1, _, x1, y1⟩ := D (q + 1) b
  obtain ⟨t2, q2, b2, e2, f2, o2, _, x2, y2⟩ := D q1 b1
  obtain ⟨t3, q3, b3, e3, f3, o3, _, x3, y3⟩ := D q2 b2
  obtain ⟨t4, q4, b4, e4, f4, o4, _, x4, y4⟩ := D q3 b3
  have v1 : (pc t1 : Int) ≤ b + p + 1 := by rcases Int.lt_or_le 0 b with h | h; have := y1 h; omega; have := x1 h; omega
  have v2 : (pc t1 + pc t2 : Int) ≤ b + p + 2 := by rcases Int.lt_or_le 0 b1 with h | h; have := y2 h; omega; have := x2 h; omega
  have v3 : (pc t1 + pc t2 + pc t3 : Int) ≤ b + p + 3 := by rcases Int.lt_or_le 0 b2 with h | h; have := y3 h; omega; have := x3 h; omega
  have v4 : (pc t1 + pc t2 + pc t3 + pc t4 : Int) ≤ b + p + 4 := by rcases Int.lt_or_le 0 b3 with h | h; have := y4 h; omega; have := x4 h; omega
  have s2 : b2 = b - (pc t1 + (pc t2 + 0) : Nat) := by omega
  have s3 : b3 = b - (pc t1 + (pc t2 + (pc t3 + 0)) : Nat) := by omega
  have s4 : b4 = b - (pc t1 + (pc t2 + (pc t3 + (pc t4 + 0))) : Nat) := by omega
  have z2 : ((pc t1 + (pc t2 + 0) : Nat) : Int) ≤ b + (p + 4) := by omega
  have z3 : ((pc t1 + (pc t2 + (pc t3 + 0)) : Nat) : Int) ≤ b + (p + 4) := by omega
  have z4 : ((pc t1 + (pc t2 + (pc t3 + (pc t4 + 0))) : Nat) : Int) ≤ b + (p + 4) := by omega
  have z1 : ((pc t1 + 0 : Nat) : Int) ≤ b + (p + 4) := by omega
  have ok : ∀ {l : List T}, (∀ t ∈ l, t = t1 ∨ t = t2 ∨ t = t3 ∨ t = t4) → 1 ≤ l.length → l.length ≤ 4 → OkT (n + 1) (.join l) := fun h => .join fun t m => by rcases h t m with rfl | rfl | rfl | rfl <;> assumption
  refine lt4 (P := fun r => CF w m a_law_take [.cell 0, nI 4] (dC [] sc q b) (nI r, dC [] sc (q + 1) b) → _) hr ?_ ?_ ?_ ?_ ht
  · exact fun ht => ⟨[t1], q1, b1, ofRuns (u := true) (tt := false) (pm := false) (st (by kernel_rfl) ht (st (by kernel_rfl) e1 (fn (by kernel_rfl)))), f1, ok (by simp) (Nat.le_of_ble_eq_true rfl) (Nat.le_of_ble_eq_true rfl), z1⟩
  · exact fun ht => ⟨[t1, t2], q2, b2, ofRuns (u := true) (tt := false) (pm := false) (st (by kernel_rfl) ht (st (by kernel_rfl) e1 (st (by kernel_rfl) e2 (fn (by kernel_rfl))))), s2, ok (by simp) (Nat.le_of_ble_eq_true rfl) (Nat.le_of_ble_eq_true rfl), z2⟩
  · exact fun ht => ⟨[t1, t2, t3], q3, b3, ofRuns (u := true) (tt := false) (pm := false) (st (by kernel_rfl) ht (st (by kernel_rfl) e1 (st (by kernel_rfl) e2 (st (by kernel_rfl) e3 (fn (by kernel_rfl)))))), s3, ok (by simp) (Nat.le_of_ble_eq_true rfl) (Nat.le_of_ble_eq_true rfl), z3⟩
  · exact fun ht => ⟨[t1, t2, t3, t4], q4, b4, ofRuns (u := true) (tt := false) (pm := false) (st (by kernel_rfl) ht (st (by kernel_rfl) e1 (st (by kernel_rfl) e2 (st (by kernel_rfl) e3 (st (by kernel_rfl) e4 (fn (by kernel_rfl))))))), s4, ok (by simp) (Nat.le_of_ble_eq_true rfl) (Nat.le_of_ble_eq_true rfl), z4⟩
end
end Mine
end
noncomputable section
namespace Mine
open PySem PySem.W
section
variable {w : World} {sc : List Int} {m k n q : Nat} {b p : Int}
theorem gt_t {k : Nat} (h : 3 < k) : (!decide (Int.ofNat k ≤ 3)) = true := ndt (a := 3) h
theorem gt_f {k : Nat} (h : k ≤ 3) : (!decide (Int.ofNat k ≤ 3)) = false := ndf (a := 3) h
theorem leafT {t : T} {q' : Nat} (hp : 0 ≤ p) (hc : tc t = 0) (ok : OkT n t) (x : isX t = true) (e : CF w m a_law_text [.cell 0, nI k] (dC [] sc q b) (enc t, dC [] sc q' b)) : Dr w sc m a_law_text k tc 0 n p q b fun t => isX t = true :=
  ⟨t, q', b, e, by rw [hc]; exact (Int.sub_zero b).symm, ok, x, fun _ => hc, fun h => by rw [hc]; exact Int.add_nonneg (Int.le_of_lt h) hp⟩
theorem leafP {t : T} {q' : Nat} (hp : 0 ≤ p) (hc : pc t = 1) (ok : OkT n t) (e : CF w m a_law_piece [.cell 0, nI k] (dC [] sc q b) (enc t, dC [] sc q' (b - 1))) : Dr w sc m a_law_piece k pc 1 n p q b fun _ => True :=
  ⟨t, q', b - 1, e, by rw [hc]; rfl, ok, trivial, fun _ => hc, fun h => by rw [hc]; exact Int.le_trans h (Int.le_add_of_nonneg_right hp)⟩
theorem text_leaf (hm : 1 ≤ m) (hp : 0 ≤ p) {r : Nat} (ht : CF w 1 a_law_take [.cell 0, nI 5] (dC [] sc q b) (nI r, dC [] sc (q + 1) b)) (hr : r < 5) (h2 : r = 2 → ¬ (k < 3 ∧ 0 < b)) : Dr w sc (m + 1) a_law_text k tc 0 (n + 1) p q b fun t => isX t = true := by
  obtain ⟨r', hr', ht'⟩ := take_of (w := w) (sc := sc) (q := q + 1) (b := b) (rest := []) 4
  obtain ⟨r4, hr4, ht4⟩ := take_of (w := w) (sc := sc) (q := q + 1) (b := b) (rest := []) 3
  have ht := up ht hm
  have ht' := up ht' hm
  have ht4 := up ht4 hm
  have wi := word_it hr'
  refine lt5 (P := fun r => (r = 2 → ¬ (k < 3 ∧ 0 < b)) → CF w m a_law_take [.cell 0, nI 5] (dC [] sc q b) (nI r, dC [] sc (q + 1) b) → _) hr ?_ ?_ ?_ ?_ ?_ h2 ht
  · exact fun _ ht => leafT (t := .txt (wd5 r')) (q' := q + 2) hp rfl (word_ok hr') rfl (ofRuns (u := true) (tt := false) (pm := true) (st (by kernel_rfl) ht (st (by kernel_rfl) ht' (sp (optD (wd5 r')) (by kernel_rfl) wi (fn (by kernel_rfl))))))
  · exact fun _ ht => leafT (t := .txt (wd5 r')) (q' := q + 2) hp rfl (word_ok hr') rfl (ofRuns (u := true) (tt := false) (pm := true) (st (by kernel_rfl) ht (st (by kernel_rfl) ht' (sp (optD (wd5 r')) (by kernel_rfl) wi (fn (by kernel_rfl))))))
  · refine fun h2 ht => leafT (t := .txt (wd5 r')) (q' := q + 2) hp rfl (word_ok hr') rfl (ofRuns (u := true) (tt := true) (pm := true) (st (by kernel_rfl) ht (sA 1 ?_)))
    rcases Nat.lt_or_ge k 3 with h | h
    · have hb := Int.not_lt.mp fun e => h2 rfl ⟨h, e⟩
      exact sb true (by kernel_rfl) (ndt (b := 3) h) (sA 1 (sb false (by kernel_rfl) (show (!decide (b ≤ 0)) = false by rw [decide_eq_true hb]; rfl) (sA 2 (st (by kernel_rfl) ht' (sp (optD (wd5 r')) (by kernel_rfl) wi (fn (by kernel_rfl)))))))
    · exact sb false (by kernel_rfl) (ndf (b := 3) h) (sA 2 (st (by kernel_rfl) ht' (sp (optD (wd5 r')) (by kernel_rfl) wi (fn (by kernel_rfl)))))
  · exact fun _ ht => leafT (t := .loc 1) (q' := q + 1) hp rfl (.loc (i := 0) (by decide)) rfl (ofRuns (u := true) (tt := false) (pm := true) (st (by kernel_rfl) ht (fn (by kernel_rfl))))
  · exact fun _ ht => leafT (t := .call false r4) (q' := q + 2) hp rfl (.call hr4) rfl (ofRuns (u := true) (tt := false) (pm := true) (st (by kernel_rfl) ht (st (by kernel_rfl) ht4 (fn (by kernel_rfl)))))
theorem text_ok (hm : 1 ≤ m) (hp : 0 ≤ p) (D : k < 3 → DCt w sc m k (n + 1) (p + 4)) : DT w sc (m + 1) k (n + 1) (p + 4) := by
  intro q b
  obtain ⟨r, hr, ht⟩ := take_of (w := w) (sc := sc) (q := q) (b := b) (rest := []) 4
  by_cases h : r = 2 ∧ k < 3 ∧ 0 < b
  · obtain ⟨rfl, hk, hb⟩ := h
    obtain ⟨l, q', b', e, f, o, z⟩ := D hk (q + 1) (b - 1) (Int.le_sub_one_of_lt hb)
    refine ⟨.join l, q', b', ofRuns (u := true) (tt := true) (pm := true) (st (by kernel_rfl) (up ht hm) (sA 1 (sb true (by kernel_rfl) (ndt (b := 3) hk) (sA 1 (sb true (by kernel_rfl) (show (!decide (b ≤ 0)) = true by rw [decide_eq_false (Int.not_le.mpr hb)]; rfl) (sA 1 (st (by kernel_rfl) e (fn (by kernel_rfl))))))))), ?_, o, rfl, fun h => absurd hb (Int.not_lt.mpr h), fun _ => ?_⟩
    · rw [f]; show b - 1 - (pcs l : Int) = b - ((pcs l + 1 : Nat) : Int); omega
    · show ((pcs l + 1 : Nat) : Int) ≤ b + (p + 4); omega
  · exact text_leaf hm (Int.add_nonneg hp (by decide)) ht hr fun e q => h ⟨e, q⟩
theorem del_it {r : Nat} (h : r < 5) : item (.dat (.tup [nI 0, nI 2, nI 3, nI 6, nI 7])) (nI r) ⟨[], []⟩ = some (nI (dN r)) := lt5 (P := fun r => item (.dat (.tup [nI 0, nI 2, nI 3, nI 6, nI 7])) (nI r) ⟨[], []⟩ = some (nI (dN r))) h (by kernel_rfl) (by kernel_rfl) (by kernel_rfl) (by kernel_rfl) (by kernel_rfl)
noncomputable abbrev tX (sc : List Int) (k q : Nat) (b : Int) (r : Nat) : Tr := adv 1 (feed (BT a_law_piece [.cell 0, nI k] (dC [] sc q b)) (nI r) (dC [] sc (q + 1) b))
noncomputable def tL (sc : List Int) (k q : Nat) (b : Int) (r : Nat) : Tr := feedB (tX sc k q b r) true
noncomputable def tH (sc : List Int) (k q : Nat) (b : Int) (r : Nat) : Tr := feedB (feedB (tX sc k q b r) false) false
theorem to_low (hm : 1 ≤ m) {r : Nat} {R : Res} (ht : CF w 1 a_law_take [.cell 0, nI 14] (dC [] sc q b) (nI r, dC [] sc (q + 1) b)) (h : b ≤ 0 ∨ 3 < k) (h2 : Runs w m (tL sc k q b r) R) : CF w (m + 1) a_law_piece [.cell 0, nI k] (dC [] sc q b) R := by
  refine ofRuns (u := true) (tt := true) (pm := true) (st (by kernel_rfl) (up ht hm) (sA 1 ?_))
  by_cases hb : b ≤ 0
  · exact sb true (by kernel_rfl) (decide_eq_true hb) h2
  · exact sb false (by kernel_rfl) (decide_eq_false hb) (sb true (by kernel_rfl) (gt_t (h.resolve_left hb)) (re (by kernel_rfl) h2))
theorem to_high (hm : 1 ≤ m) {r : Nat} {R : Res} (ht : CF w 1 a_law_take [.cell 0, nI 14] (dC [] sc q b) (nI r, dC [] sc (q + 1) b)) (hb : 0 < b) (hk : k ≤ 3) (h2 : Runs w m (tH sc k q b r) R) : CF w (m + 1) a_law_piece [.cell 0, nI k] (dC [] sc q b) R :=
  ofRuns (u := true) (tt := true) (pm := true) (st (by kernel_rfl) (up ht hm) (sA 1 (sb false (by kernel_rfl) (decide_eq_false (Int.not_le.mpr hb)) (sb false (by kernel_rfl) (gt_f hk) h2))))
noncomputable def Lf (w : World) (sc : List Int) (m n : Nat) (b : Int) (t : Tr) : Prop := ∃ t' q', Runs w m t (enc t', dC [] sc q' (b - 1)) ∧ pc t' = 1 ∧ OkT n t'
theorem ll0 (hm : 1 ≤ m) : Lf w sc m (n + 1) b (tL sc k q b 0) := by
  obtain ⟨r, hr, ht⟩ := take_of (w := w) (sc := sc) (q := q + 1) (b := b - 1) (rest := []) 4
  exact ⟨.txt (wd5 r), q + 2, sA 3 (st (by kernel_rfl) (up ht hm) (sp (optD (wd5 r)) (by kernel_rfl) (word_it hr) (fn (by kernel_rfl)))), rfl, word_ok hr⟩
theorem ll1 : Lf w sc m (n + 1) b (tL sc k q b 1) := ⟨.txt none, q + 1, sA 4 (fn (by kernel_rfl)), rfl, .txt fun _ e => nn e⟩
theorem ll2 : Lf w sc m (n + 1) b (tL sc k q b 2) := ⟨.loc 1, q + 1, sA 5 (fn (by kernel_rfl)), rfl, .loc (i := 0) (by decide)⟩
theorem ll3 : Lf w sc m (n + 1) b (tL sc k q b 3) := ⟨.loc 2, q + 1, sA 6 (fn (by kernel_rfl)), rfl, .loc (i := 1) (by decide)⟩
theorem ll4 : Lf w sc m (n + 1) b (tL sc k q b 4) := ⟨.loc 3, q + 1, sA 7 (fn (by kernel_rfl)), rfl, .loc (i := 2) (by decide)⟩
theorem ll5 (hm : 1 ≤ m) : Lf w sc m (n + 1) b (tL sc k q b 5) := by
  obtain ⟨r, hr, ht⟩ := take_of (w := w) (sc := sc) (q := q + 1) (b := b - 1) (rest := []) 3
  exact ⟨.call false r, q + 2, sA 11 (st (by kernel_rfl) (up ht hm) (fn (by kernel_rfl))), rfl, .call hr⟩
theorem ll6 (hm : 1 ≤ m) : Lf w sc m (n + 1) b (tL sc k q b 6) := by
  obtain ⟨r, hr, ht⟩ := take_of (w := w) (sc := sc) (q := q + 1) (b := b - 1) (rest := []) 2
  exact ⟨.num (.ofNat r - 1), q + 2, sA 12 (st (by kernel_rfl) (up ht hm) (fn (by kernel_rfl))), rfl, .num hr⟩
theorem ll7 : Lf w sc m (n + 1) b (tL sc k q b 7) := ⟨.null, q + 1, sA 13 (fn (by kernel_rfl)), rfl, .null⟩
theorem ll8 (hm : 1 ≤ m) : Lf w sc m (n + 1) b (tL sc k q b 8) := by
  obtain ⟨r, hr, ht⟩ := take_of (w := w) (sc := sc) (q := q + 1) (b := b - 1) (rest := []) 4
  exact ⟨.loc (4 + r), q + 2, sA 14 (st (by kernel_rfl) (up ht hm) (fn (by kernel_rfl))), rfl, by rw [show 4 + r = 3 + r + 1 from Nat.add_right_comm 3 1 r]; exact .loc (Nat.add_lt_add_left hr 3)⟩
theorem ll9 (hm : 1 ≤ m) : Lf w sc m (n + 1) b (tL sc k q b 9) := by
  obtain ⟨r, hr, ht⟩ := take_of (w := w) (sc := sc) (q := q + 1) (b := b - 1) (rest := []) 4
  exact ⟨.deleg (dN r), q + 2, sA 15 (st (by kernel_rfl) (up ht hm) (sp (nI (dN r)) (by kernel_rfl) (del_it hr) (fn (by kernel_rfl)))), rfl, .deleg hr⟩
theorem ll10 : Lf w sc m (n + 1) b (tL sc k q b 10) := ⟨.loc 1, q + 1, sA 5 (fn (by kernel_rfl)), rfl, .loc (i := 0) (by decide)⟩
theorem ll11 (hm : 1 ≤ m) : Lf w sc m (n + 1) b (tL sc k q b 11) := by
  obtain ⟨r, hr, ht⟩ := take_of (w := w) (sc := sc) (q := q + 1) (b := b - 1) (rest := []) 4
  exact ⟨.txt (wd5 r), q + 2, sA 3 (st (by kernel_rfl) (up ht hm) (sp (optD (wd5 r)) (by kernel_rfl) (word_it hr) (fn (by kernel_rfl)))), rfl, word_ok hr⟩
theorem ll12 (hm : 1 ≤ m) : Lf w sc m (n + 1) b (tL sc k q b 12) := by
  obtain ⟨r, hr, ht⟩ := take_of (w := w) (sc := sc) (q := q + 1) (b := b - 1) (rest := []) 3
  exact ⟨.call false r, q + 2, sA 11 (st (by kernel_rfl) (up ht hm) (fn (by kernel_rfl))), rfl, .call hr⟩
theorem ll13 : Lf w sc m (n + 1) b (tL sc k q b 13) := ⟨.loc 3, q + 1, sA 7 (fn (by kernel_rfl)), rfl, .loc (i := 2) (by decide)⟩
theorem lh0 (hm : 1 ≤ m) : Lf w sc m (n + 1) b (tH sc k q b 0) := by
  obtain ⟨r, hr, ht⟩ := take_of (w := w) (sc := sc) (q := q + 1) (b := b - 1) (rest := []) 4
  exact ⟨.txt (wd5 r), q + 2, sA 2 (st (by kernel_rfl) (up ht hm) (sp (optD (wd5 r)) (by kernel_rfl) (word_it hr) (fn (by kernel_rfl)))), rfl, word_ok hr⟩
theorem lh1 : Lf w sc m (n + 1) b (tH sc k q b 1) := ⟨.txt none, q + 1, sA 3 (fn (by kernel_rfl)), rfl, .txt fun _ e => nn e⟩
theorem lh2 : Lf w sc m (n + 1) b (tH sc k q b 2) := ⟨.loc 1, q + 1, sA 4 (fn (by kernel_rfl)), rfl, .loc (i := 0) (by decide)⟩
theorem lh3 : Lf w sc m (n + 1) b (tH sc k q b 3) := ⟨.loc 2, q + 1, sA 5 (fn (by kernel_rfl)), rfl, .loc (i := 1) (by decide)⟩
theorem lh4 : Lf w sc m (n + 1) b (tH sc k q b 4) := ⟨.loc 3, q + 1, sA 6 (fn (by kernel_rfl)), rfl, .loc (i := 2) (by decide)⟩
theorem lh8 (hm : 1 ≤ m) : Lf w sc m (n + 1) b (tH sc k q b 8) := by
  obtain ⟨r, hr, ht⟩ := take_of (w := w) (sc := sc) (q := q + 1) (b := b - 1) (rest := []) 3
  exact ⟨.call false r, q + 2, sA 10 (st (by kernel_rfl) (up ht hm) (fn (by kernel_rfl))), rfl, .call hr⟩
theorem lh9 (hm : 1 ≤ m) : Lf w sc m (n + 1) b (tH sc k q b 9) := by
  obtain ⟨r, hr, ht⟩ := take_of (w := w) (sc := sc) (q := q + 1) (b := b - 1) (rest := []) 2
  exact ⟨.num (.ofNat r - 1), q + 2, sA 11 (st (by kernel_rfl) (up ht hm) (fn (by kernel_rfl))), rfl, .num hr⟩
theorem lh10 : Lf w sc m (n + 1) b (tH sc k q b 10) := ⟨.null, q + 1, sA 12 (fn (by kernel_rfl)), rfl, .null⟩
theorem lh11 (hm : 1 ≤ m) : Lf w sc m (n + 1) b (tH sc k q b 11) := by
  obtain ⟨r, hr, ht⟩ := take_of (w := w) (sc := sc) (q := q + 1) (b := b - 1) (rest := []) 4
  exact ⟨.loc (4 + r), q + 2, sA 13 (st (by kernel_rfl) (up ht hm) (fn (by kernel_rfl))), rfl, by rw [show 4 + r = 3 + r + 1 from Nat.add_right_comm 3 1 r]; exact .loc (Nat.add_lt_add_left hr 3)⟩
theorem lh12 (hm : 1 ≤ m) : Lf w sc m (n + 1) b (tH sc k q b 12) := by
  obtain ⟨r, hr, ht⟩ := take_of (w := w) (sc := sc) (q := q + 1) (b := b - 1) (rest := []) 3
  exact ⟨.call true r, q + 2, sA 14 (st (by kernel_rfl) (up ht hm) (fn (by kernel_rfl))), rfl, .call hr⟩
theorem lh13 (hm : 1 ≤ m) : Lf w sc m (n + 1) b (tH sc k q b 13) := by
  obtain ⟨r, hr, ht⟩ := take_of (w := w) (sc := sc) (q := q + 1) (b := b - 1) (rest := []) 4
  exact ⟨.deleg (dN r), q + 2, sA 14 (st (by kernel_rfl) (up ht hm) (sp (nI (dN r)) (by kernel_rfl) (del_it hr) (fn (by kernel_rfl)))), rfl, .deleg hr⟩
theorem piece_low (hm : 1 ≤ m) (hp : 0 ≤ p) (h : b ≤ 0 ∨ 3 < k) : Dr w sc (m + 1) a_law_piece k pc 1 (n + 1) p q b fun _ => True := by
  obtain ⟨r, hr, ht⟩ := take_of (w := w) (sc := sc) (q := q) (b := b) (rest := []) 13
  obtain ⟨t, q', e, f, o⟩ := lt14 (P := fun r => Lf w sc m (n + 1) b (tL sc k q b r)) hr (ll0 hm) ll1 ll2 ll3 ll4 (ll5 hm) (ll6 hm) ll7 (ll8 hm) (ll9 hm) ll10 (ll11 hm) (ll12 hm) ll13
  exact leafP hp f o (to_low hm ht h e)
theorem piece_ok (hm : 1 ≤ m) (hp : 0 ≤ p) (hk : k ≤ 3) (C : DCt w sc m k (n + 2) (p + 4)) (X : DT w sc m (k + 1) (n + 1) p) : DP w sc (m + 1) k (n + 2) (p + 4) := by
  intro q b
  rcases Int.lt_or_le 0 b with hb | hb
  · obtain ⟨r, hr, ht⟩ := take_of (w := w) (sc := sc) (q := q) (b := b) (rest := []) 13
    have hp4 : 0 ≤ p + 4 := Int.add_nonneg hp (by decide)
    have lf : ∀ {r}, CF w 1 a_law_take [.cell 0, nI 14] (dC [] sc q b) (nI r, dC [] sc (q + 1) b) → Lf w sc m (n + 2) b (tH sc k q b r) → Dr w sc (m + 1) a_law_piece k pc 1 (n + 2) (p + 4) q b fun _ => True := fun ht ⟨t, q', e, f, o⟩ => leafP hp4 f o (to_high hm ht hb hk e)
    refine lt14 (P := fun r => CF w 1 a_law_take [.cell 0, nI 14] (dC [] sc q b) (nI r, dC [] sc (q + 1) b) → _) hr (fun ht => lf ht (lh0 hm)) (fun ht => lf ht lh1) (fun ht => lf ht lh2) (fun ht => lf ht lh3) (fun ht => lf ht lh4) ?_ ?_ ?_ (fun ht => lf ht (lh8 hm)) (fun ht => lf ht (lh9 hm)) (fun ht => lf ht lh10) (fun ht => lf ht (lh11 hm)) (fun ht => lf ht (lh12 hm)) (fun ht => lf ht (lh13 hm)) ht
    · intro ht
      obtain ⟨t, q', b', e, f, o, x, c, y⟩ := X (q + 1) (b - 1)
      refine ⟨.set t, q', b', to_high hm ht hb hk (sA 7 (st (by kernel_rfl) e (fn (by kernel_rfl)))), ?_, .set o x, trivial, fun h => absurd hb (Int.not_lt.mpr h), fun _ => ?_⟩
      · rw [f]; show b - 1 - (tc t : Int) = b - ((tc t + 1 : Nat) : Int); omega
      · show ((tc t + 1 : Nat) : Int) ≤ b + (p + 4)
        rcases Int.lt_or_le 0 (b - 1) with h | h
        · have := y h; omega
        · have := c h; omega
    · intro ht
      obtain ⟨l, q', b', e, f, o, z⟩ := C (q + 1) (b - 1) (Int.le_sub_one_of_lt hb)
      refine ⟨.join l, q', b', to_high hm ht hb hk (sA 8 (st (by kernel_rfl) e (fn (by kernel_rfl)))), ?_, o, trivial, fun h => absurd hb (Int.not_lt.mpr h), fun _ => ?_⟩
      · rw [f]; show b - 1 - (pcs l : Int) = b - ((pcs l + 1 : Nat) : Int); omega
      · show ((pcs l + 1 : Nat) : Int) ≤ b + (p + 4); omega
    · intro ht
      obtain ⟨r3, hr3, ht3⟩ := take_of (w := w) (sc := sc) (q := q + 1) (b := b - 1) (rest := []) 2
      obtain ⟨t, q1, b1, e, f, o, x, c, y⟩ := X (q + 2) (b - 1)
      obtain ⟨t', q', b', e', f', o', x', c', y'⟩ := X q1 b1
      refine ⟨.cond r3 t t', q', b', to_high hm ht hb hk (sA 9 (st (by kernel_rfl) (up ht3 hm) (st (by kernel_rfl) e (st (by kernel_rfl) e' (fn (by kernel_rfl)))))), ?_, .cond hr3 o x o' x', trivial, fun h => absurd hb (Int.not_lt.mpr h), fun _ => ?_⟩
      · rw [f', f]; show b - 1 - (tc t : Int) - (tc t' : Int) = b - ((tc t + tc t' + 1 : Nat) : Int); omega
      · show ((tc t + tc t' + 1 : Nat) : Int) ≤ b + (p + 4)
        have v : (tc t : Int) ≤ b - 1 + p := by
          rcases Int.lt_or_le 0 (b - 1) with h | h
          · exact y h
          · have := c h; omega
        rcases Int.lt_or_le 0 b1 with h | h
        · have := y' h; omega
        · have := c' h; omega
  · exact piece_low hm (Int.add_nonneg hp (by decide)) (.inl hb)
theorem tree_ok (sc : List Int) {b : Int} (h0 : 0 ≤ b) : ∃ l q' b', CF w 10 a_law_concat [.cell 0, nI 0] (dC [] sc q b) (enc (.join l), dC [] sc q' b') ∧ OkT 5 (.join l) ∧ (pcs l : Int) ≤ b + 16 := by
  have t4 : DT w sc 2 4 1 0 := fun q b => let ⟨r, hr, ht⟩ := take_of (w := w) (sc := sc) (q := q) (b := b) (rest := []) 4; text_leaf (Nat.le_refl _) (Int.le_refl _) ht hr fun _ h => absurd h.1 (by decide)
  have p4 : DP w sc 2 4 1 0 := fun q b => piece_low (Nat.le_refl _) (Int.le_refl _) (.inr (by decide))
  have c3 := concat_ok (Int.le_refl _) (by decide) p4
  have p3 := piece_ok (by decide) (Int.le_refl _) (by decide) c3 fun q b => let ⟨t, q', b', e, r⟩ := t4 q b; ⟨t, q', b', up e (by decide), r⟩
  have t3 : DT w sc 4 3 2 4 := text_ok (by decide) (Int.le_refl _) fun _ => c3
  have c2 := concat_ok (by decide) (by decide) p3
  have p2 := piece_ok (by decide) (by decide) (by decide) c2 fun q b => let ⟨t, q', b', e, r⟩ := t3 q b; ⟨t, q', b', up e (by decide), r⟩
  have t2 : DT w sc 6 2 3 8 := text_ok (by decide) (by decide) fun _ => c2
  have c1 := concat_ok (by decide) (by decide) p2
  have p1 := piece_ok (by decide) (by decide) (by decide) c1 fun q b => let ⟨t, q', b', e, r⟩ := t2 q b; ⟨t, q', b', up e (by decide), r⟩
  obtain ⟨l, q', b', e, _, o, z⟩ := concat_ok (by decide) (by decide) p1 q b h0
  exact ⟨l, q', b', up e (by decide), o, z⟩
end
end Mine
end
noncomputable section
namespace Mine
open PySem PySem.W
noncomputable def sAction : Str := ⟨⟨[nat_lit 97, nat_lit 99, nat_lit 116, nat_lit 105, nat_lit 111, nat_lit 110]⟩⟩
noncomputable def sKinds : Str := ⟨⟨[nat_lit 107, nat_lit 105, nat_lit 110, nat_lit 100, nat_lit 115]⟩⟩
noncomputable def PLt : List Cell := [
  .obj 799 [H.z101, H.z293, H.z290, H.z291, H.z292, H.z288, H.z289] [.cell 3, .cell 9, .cell 10, .cell 11, .cell 12, .cell 13, nI 0],
  .obj 109 [H.z82, H.z80, H.z79, H.z83, H.z81] [.cell 4, .cell 5, .cell 6, .cell 7, .cell 8],
  .lst [.tup [nI 1, nI 0], .tup [nI 1, nI 1], .tup [nI 1, nI 2], .tup [nI 1, nI 3], .tup [nI 1, nI 4], .tup [nI 1, nI 5], .tup [nI 1, nI 6], .tup [nI 1, nI 7], .tup [nI 1, nI 8], .tup [nI 1, nI 9], .tup [nI 1, nI 10], .tup [nI 1, nI 11], .tup [nI 1, nI 12], .tup [nI 1, nI 13], .tup [nI 1, nI 14], .tup [nI 1, nI 15], .tup [nI 2, nI 44, .tup []], .tup [nI 6, nI 0], .tup [nI 3, nI 45, .tup []], .tup [nI 3, nI 8, .tup [nI 7]]],
  .tab [(.ofNat 1, .ofNat 0, none), (.ofNat 1, .ofNat 1, none), (.ofNat 1, .ofNat 2, none), (.ofNat 1, .ofNat 3, none), (.ofNat 1, .ofNat 4, none), (.ofNat 1, .ofNat 5, none), (.ofNat 1, .ofNat 6, none), (.ofNat 1, .ofNat 7, none), (.ofNat 1, .ofNat 8, none), (.ofNat 1, .ofNat 9, none), (.ofNat 1, .ofNat 10, none), (.ofNat 1, .ofNat 11, none), (.ofNat 1, .ofNat 12, none), (.ofNat 1, .ofNat 13, none), (.ofNat 1, .ofNat 14, none), (.ofNat 1, .ofNat 15, none), (.ofNat 2, .ofNat 44, some []), (.ofNat 6, .ofNat 0, none), (.ofNat 3, .ofNat 45, some []), (.ofNat 3, .ofNat 8, some [.ofNat 7])] [nI 0, nI 1, nI 2, nI 3, nI 4, nI 5, nI 6, nI 7, nI 8, nI 9, nI 10, nI 11, nI 12, nI 13, nI 14, nI 15, nI 16, nI 17, nI 18, nI 19],
  .lst [nI 1, nI 1, nI 1, nI 1, nI 1, nI 1, nI 1, nI 1, nI 1, nI 1, nI 1, nI 1, nI 1, nI 1, nI 1, nI 1, nI 1, nI 1, nI 1, nI 2],
  .lst [nI 1, nI 1, nI 1, nI 1, nI 1, nI 1, nI 1, nI 1, nI 1, nI 1, nI 1, nI 1, nI 1, nI 1, nI 1, nI 1, nI 1, nI 1, nI 1, nI 2],
  .lst [nI 0, nI 0, nI 0, nI 0, nI 0, nI 0, nI 0, nI 0, nI 0, nI 0, nI 0, nI 0, nI 0, nI 0, nI 0, nI 0, nI 0, nI 1, nI 0, nI 0],
  .lst [.none],
  .lst [.none],
  .lst [.none],
  .dct [] [],
  .lst [],
  .obj 346 [H.z163, H.z164, H.z168, H.z172, H.z170, H.z167, H.z169, H.z171, H.z166] [.cell 2, nI 0, .cell 15, .cell 16, .cell 17, .cell 18, .cell 20, .cell 21, .cell 22],
  .lst [.none],
  .lst [.none],
  .dct [] [],
  .obj 254 [H.z82] [.cell 19],
  .lst [],
  .dct [] [],
  .dct [] [],
  .dct [] [],
  .dct [.str sAction, .str sKinds] [nI 16, .cell 24],
  .dct [nI 1, nI 2, nI 3, nI 4, nI 5, nI 6, nI 7, nI 8] [nI 13, nI 12, nI 7, nI 2, nI 1, nI 17, nI 18, nI 19],
  .obj 479 [H.z194, H.z163, H.z101, H.z195, H.z174, H.z206, H.z209, H.z205, H.z208, H.z207] [.cell 14, .cell 2, .cell 3, .none, .cell 26, nI 0, .cell 27, .cell 28, .cell 29, .cell 30],
  .lst [],
  .lst [],
  .dct [nI 26, nI 25, nI 24] [.cell 31, .cell 32, .cell 33],
  .dct [] [],
  .obj 416 [] [],
  .obj 538 [] [],
  .obj 557 [] [],
  .obj 576 [] []]
noncomputable def PL (c0 c1 : Cell) : List Cell := c0 :: c1 :: PLt
noncomputable def kindN : Nat → Nat
  | 1 => 13
  | 2 => 12
  | 3 => 7
  | 4 => 2
  | 5 => 1
  | 6 => 17
  | 7 => 18
  | _ => 19
noncomputable def locD (i : Nat) : D := .tup [nI 2, nI (kindN i), nI i]
noncomputable def testD : Nat → D
  | 0 => .tup [nI 1, nI 1, nI 0]
  | 1 => .tup [nI 1, nI 1, nI 1]
  | _ => .tup [nI 2, nI 1, nI 5]
noncomputable def objD : Nat → D
  | 0 => .none
  | i => locD i
noncomputable def delD (i : Nat) (o : D) : D := .tup [nI 25, nI 16, o, .tup [nI 12, nI (50 + i), .tup []], nI 1]
noncomputable def callD (o : Bool) (n : Nat) : D := .tup [nI 8, nI (kO o), .none, .tup [nI 12, nI (1000 + n), .tup []], .tup [], nI 0]
mutual
noncomputable def bnd : T → D
  | .txt w => .tup [nI 1, nI 13, optD w]
  | .null => .tup [nI 1, nI 12, .none]
  | .num i => .tup [nI 1, nI 7, .int i]
  | .loc i => locD i
  | .set t => .tup [nI 22, nI 13, locD 1, bnd t]
  | .call o n => callD o n
  | .cond c a b => .tup [nI 17, nI 13, testD c, bnd a, bnd b]
  | .deleg i => delD i (objD i)
  | .join l => .tup [nI 26, nI 13, .tup (bnds l)]
noncomputable def bnds : List T → List D
  | [] => []
  | t :: r => bnd t :: bnds r
end
theorem mem2 {α : Type} {a b : α} {l : List α} : b ∈ a :: b :: l := .tail _ (.head _)
theorem pcs4 {P : T → Prop} {Q : List T → Prop} {l : List T} (h : ∀ t ∈ l, P t) (l1 : 1 ≤ l.length) (l4 : l.length ≤ 4) (p1 : ∀ {a}, P a → Q [a]) (p2 : ∀ {a b}, P a → P b → Q [a, b]) (p3 : ∀ {a b c}, P a → P b → P c → Q [a, b, c]) (p4 : ∀ {a b c d}, P a → P b → P c → P d → Q [a, b, c, d]) : Q l := by
  refine pieces (P := fun l => (∀ t ∈ l, P t) → Q l) l1 l4 (fun a h => p1 (h a (.head _))) (fun a b h => p2 (h a (.head _)) (h b mem2)) (fun a b c h => p3 (h a (.head _)) (h b mem2) (h c (.tail _ mem2))) (fun a b c d h => p4 (h a (.head _)) (h b mem2) (h c (.tail _ mem2)) (h d (.tail _ (.tail _ mem2)))) h
section
variable {w : World} {c0 c1 : Cell} {pi : List Cell}
theorem ofR {m : Nat} {a : Addr} {args : List D} {r : Res} (h : Runs w m (B a args pi) r) : CF w (m + 1) a args pi r := ofRuns (u := true) (tt := false) (pm := false) h
abbrev BCF (w : World) (c0 c1 : Cell) (n : Nat) (t : T) : Prop := CF w n a_law_bound [.cell 23, enc t] (PL c0 c1) (bnd t, PL c0 c1)
theorem bound_ok {n : Nat} {t : T} (h : OkT n t) : BCF w c0 c1 n t := by
  induction h with
  | txt => rename_i w _; cases w <;> exact ofR (fn (by kernel_rfl))
  | loc h => rename_i n _; exact lt8 (P := fun i => BCF w c0 c1 (n + 1) (.loc (i + 1))) h (ofR (fn (by kernel_rfl))) (ofR (fn (by kernel_rfl))) (ofR (fn (by kernel_rfl))) (ofR (fn (by kernel_rfl))) (ofR (fn (by kernel_rfl))) (ofR (fn (by kernel_rfl))) (ofR (fn (by kernel_rfl))) (ofR (fn (by kernel_rfl)))
  | set _ _ e => exact ofR (st (by kernel_rfl) e (fn (by kernel_rfl)))
  | call => rename_i o _; cases o <;> exact ofR (fn (by kernel_rfl))
  | cond hc _ _ _ _ ea eb =>
    rename_i n _ a b _ _ _ _
    exact lt3 (P := fun c => BCF w c0 c1 (n + 1) (.cond c a b)) hc (ofR (st (by kernel_rfl) ea (st (by kernel_rfl) eb (fn (by kernel_rfl))))) (ofR (st (by kernel_rfl) ea (st (by kernel_rfl) eb (fn (by kernel_rfl))))) (ofR (st (by kernel_rfl) ea (st (by kernel_rfl) eb (fn (by kernel_rfl)))))
  | deleg h => rename_i n _; exact lt5 (P := fun i => BCF w c0 c1 (n + 1) (.deleg (dN i))) h (ofR (fn (by kernel_rfl))) (ofR (fn (by kernel_rfl))) (ofR (fn (by kernel_rfl))) (ofR (fn (by kernel_rfl))) (ofR (fn (by kernel_rfl)))
  | join _ l1 l4 e =>
    rename_i n l _
    exact pcs4 (P := BCF w c0 c1 n) (Q := fun l => BCF w c0 c1 (n + 1) (.join l)) e l1 l4 (fun a => ofR (st (by kernel_rfl) a (fn (by kernel_rfl)))) (fun a b => ofR (st (by kernel_rfl) a (st (by kernel_rfl) b (fn (by kernel_rfl)))))
      (fun a b c => ofR (st (by kernel_rfl) a (st (by kernel_rfl) b (st (by kernel_rfl) c (fn (by kernel_rfl)))))) fun a b c d => ofR (st (by kernel_rfl) a (st (by kernel_rfl) b (st (by kernel_rfl) c (st (by kernel_rfl) d (fn (by kernel_rfl))))))
  | _ => exact ofR (fn (by kernel_rfl))
end
end Mine
end
noncomputable section
namespace Mine
open PySem PySem.W
noncomputable def s0 : Str := ⟨⟨[]⟩⟩
noncomputable def fx (t : T) : Option Str := match t with
  | .txt w => some (w.getD s0)
  | .null => some s0
  | _ => none
noncomputable def pend : Option Str → List T
  | some p => [.txt (some p)]
  | none => []
noncomputable def cat (p : Option Str) (s : Str) : Str := match p with
  | some q => q ++ s
  | none => s
noncomputable def mg : Option Str → List T → List T
  | p, [] => pend p
  | p, t :: r => match fx t with
    | some s => mg (some (cat p s)) r
    | none => pend p ++ t :: mg none r
noncomputable def lastO : Option Str → List T → Option Str
  | p, [] => p
  | p, t :: r => match fx t with
    | some s => lastO (some (cat p s)) r
    | none => lastO none r
noncomputable def txtS (t : T) : Option Str := match t with
  | .txt w => w
  | _ => none
noncomputable def isS1 (l : List T) : Option Str := match l with
  | t :: r => match r with
    | [] => txtS t
    | _ => none
  | [] => none
noncomputable def mkJ (l : List T) : T := match isS1 l with
  | some s => .txt (some s)
  | none => .join l
noncomputable def isTxt (t : T) : Bool := match t with
  | .txt _ => true
  | _ => false
noncomputable def pick (c : Nat) (a b : T) : T := match c with
  | 1 => a
  | _ => b
noncomputable def foldC (c : Nat) (a b : T) : T := match Nat.blt c 2 && (isTxt a && isTxt b) with
  | true => pick c a b
  | false => .cond c a b
mutual
noncomputable def foldT : T → T
  | .set t => .set (foldT t)
  | .cond c a b => foldC c (foldT a) (foldT b)
  | .join l => mkJ (mg none (foldTs l))
  | t => t
noncomputable def foldTs : List T → List T
  | [] => []
  | t :: r => foldT t :: foldTs r
end
noncomputable def flen (t : T) : Nat := match fx t with
  | some s => s.length
  | none => 0
noncomputable def flens : List T → Nat
  | [] => 0
  | t :: r => flen t + flens r
noncomputable def plen : Option Str → Nat
  | some s => s.length
  | none => 0
theorem str_len (a b : Str) : (a ++ b).length = a.length + b.length := len_cat a b
theorem cat_len (p : Option Str) (s : Str) : (cat p s).length = plen p + s.length := by
  cases p with
  | none => exact (Nat.zero_add _).symm
  | some q => exact str_len q s
theorem mg_some {p : Option Str} {t : T} {r : List T} {s : Str} (h : fx t = some s) : mg p (t :: r) = mg (some (cat p s)) r := by rw [mg, h]
theorem mg_none {p : Option Str} {t : T} {r : List T} (h : fx t = none) : mg p (t :: r) = pend p ++ t :: mg none r := by rw [mg, h]
theorem la_some {p : Option Str} {t : T} {r : List T} {s : Str} (h : fx t = some s) : lastO p (t :: r) = lastO (some (cat p s)) r := by rw [lastO, h]
theorem la_none {p : Option Str} {t : T} {r : List T} (h : fx t = none) : lastO p (t :: r) = lastO none r := by rw [lastO, h]
theorem mg_end : ∀ (l : List T) (p : Option Str), (∀ s, lastO p l = some s → ∃ f, mg p l = f ++ [.txt (some s)]) ∧ (lastO p l = none → mg p l = [] ∨ ∃ f t, mg p l = f ++ [t] ∧ fx t = none)
  | [], p => ⟨fun s h => ⟨[], by rw [show p = some s from h]; rfl⟩, fun h => .inl (by rw [show p = none from h]; rfl)⟩
  | t :: r, p => by
    cases f : fx t with
    | some s => rw [mg_some f, la_some f]; exact mg_end r _
    | none =>
      rw [mg_none f, la_none f]
      obtain ⟨i1, i2⟩ := mg_end r none
      refine ⟨fun s h => ?_, fun h => .inr ?_⟩
      · obtain ⟨g, e⟩ := i1 s h
        exact ⟨pend p ++ t :: g, by rw [e, List.append_assoc]; rfl⟩
      · rcases i2 h with e | ⟨g, x, e, q⟩
        · exact ⟨pend p, t, by rw [e], f⟩
        · exact ⟨pend p ++ t :: g, x, by rw [e, List.append_assoc]; rfl, q⟩
theorem bnds_app : ∀ a b : List T, bnds (a ++ b) = bnds a ++ bnds b
  | [], _ => rfl
  | t :: r, b => by rw [List.cons_append, bnds, bnds, bnds_app r b]; rfl
theorem bnds_len : ∀ l : List T, (bnds l).length = l.length
  | [] => rfl
  | t :: r => by rw [bnds, List.length_cons, List.length_cons, bnds_len r]
noncomputable def fcR (e : D) (last : Option Str) (a b : Option V) : Rho := ("e", some (.dat e)) :: ("parts", some (.loc 0)) :: ("last", some (.dat (optD last))) :: ("part", a) :: ("text", b) :: (rho0 (fnR (H.st 150)).scope.names [] []).drop 5
noncomputable abbrev jD (l : List D) : D := .tup [nI 26, nI 13, .tup l]
noncomputable def fcT (l : List D) (pi : List Cell) : Tr := adv 1 (Bu false true true afold_concat [jD l] pi)
noncomputable abbrev sD (s : Str) : D := .tup [nI 1, nI 13, .str s]
section
variable {w : World} {pi : List Cell} {m : Nat}
theorem fc_loop (l : List D) : loops (fcT l pi) = some (l, fcR (jD l) none none none, ⟨pi, [[]]⟩) := by kernel_rfl
theorem last_set (acc : List D) (x d : D) : ((listSet (acc ++ [x]) (.int (-1)) d).bind fun l' => some (D.none, l')) = some (.none, acc ++ [d]) := by
  have e : (acc ++ [x]).length = acc.length + 1 := List.length_append
  show (Option.bind ((place (acc ++ [x]).length (-1)).bind fun j => some ((acc ++ [x]).set j d)) _) = _
  have : place (acc ++ [x]).length (-1) = some acc.length := by
    rw [e]
    show onO (Nat.blt 0 (acc.length + 1)) (some (acc.length + 1 - 1)) = _
    rw [Nat.blt_eq.mpr (Nat.succ_pos _)]; rfl
  rw [this]
  show some (D.none, (acc ++ [x]).set acc.length d) = _
  rw [List.set_append_right _ _ (Nat.le_refl _), Nat.sub_self]; rfl
theorem app_ok {l : List D} (d : D) (h : l.length + 1 ≤ 16777216) : locM .append l [d] = some (.none, l ++ [d]) := by
  show onO (chk (l.length + 1)) (some (D.none, l ++ [d])) = _
  rw [show chk (l.length + 1) = true from Nat.ble_eq.mpr h]; rfl
noncomputable def fcL (f p : Option Str) (acc : List D) (x : D) : List D := match f with
  | some s => acc ++ [sD (cat p s)]
  | none => acc ++ bnds (pend p) ++ [x]
theorem fc_turn (l0 : List D) {x : D} {f p : Option Str} {a b : Option V} {acc : List D} (hc : CF w m atext_part [x] pi (optD f, pi)) (hz : ∀ s, f = some s → (cat p s).length ≤ 16777216) (hl' : (acc ++ bnds (pend p)).length + 1 ≤ 16777216) :
    RunC w m (turnL (fcT l0 pi) x (fcR (jD l0) p a b) ⟨pi, [acc ++ bnds (pend p)]⟩) (none, fcR (jD l0) (f.map (cat p)) (some (.dat x)) (some (.dat (optD f))), ⟨pi, [fcL f p acc x]⟩) := by
  cases f with
  | none => cases p with
    | none => exact st (by kernel_rfl) hc (sA 2 (sr (.none, acc ++ bnds (pend none) ++ [x]) (by kernel_rfl) (app_ok x hl') (fn (by kernel_rfl))))
    | some q => exact st (by kernel_rfl) hc (sA 2 (sr (.none, acc ++ bnds (pend (some q)) ++ [x]) (by kernel_rfl) (app_ok x hl') (fn (by kernel_rfl))))
  | some s => cases p with
    | none => exact st (by kernel_rfl) hc (sA 3 (sr (.none, acc ++ bnds (pend none) ++ [sD s]) (by kernel_rfl) (app_ok (sD s) hl') (fn (by rw [show bnds (pend none) = [] from rfl, List.append_nil]; kernel_rfl))))
    | some q => exact st (by kernel_rfl) hc (sA 2 (sn (by kernel_rfl) (Nat.ble_eq.mpr (hz s rfl)) (sr (.none, acc ++ [sD (q ++ s)]) (by kernel_rfl) (last_set acc (sD q) (sD (q ++ s))) (fn (by kernel_rfl)))))
theorem fc_go (l0 : List D) : ∀ (l : List T) (p : Option Str) (acc : List T) (a b : Option V), (∀ t ∈ l, CF w m atext_part [bnd t] pi (optD (fx t), pi)) → plen p + flens l ≤ 16777216 → (acc ++ pend p).length + l.length ≤ 1000 →
    ∃ a' b', loopF (fun d ρ σ o => RunC w m (turnL (fcT l0 pi) d ρ σ) o) (bnds l) (fcR (jD l0) p a b) ⟨pi, [bnds (acc ++ pend p)]⟩ (none, fcR (jD l0) (lastO p l) a' b', ⟨pi, [bnds (acc ++ mg p l)]⟩)
  | [], p, acc, a, b, _, _, _ => ⟨a, b, rfl⟩
  | t :: r, p, acc, a, b, hc, hz, hl => by
    have hl2 : (acc ++ pend p).length + 1 + r.length ≤ 1000 := by rw [Nat.add_assoc, Nat.add_comm 1]; exact hl
    have hb : (bnds acc ++ bnds (pend p)).length + 1 ≤ 16777216 := by
      rw [← bnds_app, bnds_len]
      exact Nat.le_trans (Nat.le_trans (Nat.le_add_right _ _) hl2) (by decide)
    have cl : ∀ s, fx t = some s → (cat p s).length + flens r ≤ 16777216 := fun s e => by
      have hz : plen p + (flen t + flens r) ≤ 16777216 := hz
      have : flen t = s.length := by unfold flen; rw [e]
      rw [this] at hz
      rw [cat_len, Nat.add_assoc]; exact hz
    have h1 := fc_turn (w := w) (m := m) l0 (a := a) (b := b) (p := p) (acc := bnds acc) (hc t (.head _)) (fun s e => Nat.le_trans (Nat.le_add_right _ _) (cl s e)) hb
    rw [← bnds_app] at h1
    have hc' := fun x (mx : x ∈ r) => hc x (.tail _ mx)
    cases f : fx t with
    | some s =>
      rw [f] at h1
      have e1 : bnds acc ++ [sD (cat p s)] = bnds (acc ++ pend (some (cat p s))) := (bnds_app acc [.txt (some (cat p s))]).symm
      rw [show fcL (some s) p (bnds acc) (bnd t) = bnds acc ++ [sD (cat p s)] from rfl, e1] at h1
      have lp : (acc ++ pend (some (cat p s))).length + r.length ≤ 1000 := Nat.le_trans (Nat.add_le_add_right (by rw [List.length_append, List.length_append]; exact Nat.succ_le_succ (Nat.le_add_right _ _)) _) hl2
      obtain ⟨a', b', h2⟩ := fc_go l0 r (some (cat p s)) acc (some (.dat (bnd t))) (some (.dat (optD (some s)))) hc' (cl s f) lp
      rw [mg_some f, la_some f]
      exact ⟨a', b', _, _, h1, h2⟩
    | none =>
      rw [f] at h1
      have e1 : bnds (acc ++ pend p) ++ [bnd t] = bnds ((acc ++ pend p ++ [t]) ++ pend none) := by rw [show pend none = [] from rfl, List.append_nil, bnds_app (acc ++ pend p)]; rfl
      rw [show fcL none p (bnds acc) (bnd t) = bnds acc ++ bnds (pend p) ++ [bnd t] from rfl, ← bnds_app, e1] at h1
      have lp : (acc ++ pend p ++ [t] ++ pend none).length + r.length ≤ 1000 := by rw [show pend none = [] from rfl, List.append_nil, List.length_append]; exact hl2
      have hz2 : plen none + flens r ≤ 16777216 := by rw [show plen none = 0 from rfl, Nat.zero_add]; exact Nat.le_trans (Nat.le_add_left _ _) (Nat.le_trans (Nat.le_add_left _ _) hz)
      obtain ⟨a', b', h2⟩ := fc_go l0 r none (acc ++ pend p ++ [t]) (some (.dat (bnd t))) (some (.dat (optD none))) hc' hz2 lp
      rw [mg_none f, la_none f]
      refine ⟨a', b', _, _, h1, ?_⟩
      rw [show acc ++ (pend p ++ t :: mg none r) = acc ++ pend p ++ [t] ++ mg none r by rw [List.append_assoc, List.append_assoc]; rfl]
      exact h2
theorem len1 {n : Nat} (h : n ≠ 1) : decide (Int.ofNat n = Int.ofNat 1) = false := decide_eq_false fun e => h (Int.ofNat.inj e)
theorem isS1_is {l : List T} {s : Str} (h : isS1 l = some s) : l = [.txt (some s)] := by
  cases l with
  | nil => exact nn h
  | cons t r => cases r with
    | cons => exact nn h
    | nil => cases t with
      | txt w => rw [show w = some s from h]
      | _ => exact nn h
theorem app1 {α : Type} {f : List α} {a b : α} (h : f ++ [a] = [b]) : a = b := by
  cases f with
  | nil => exact List.head_eq_of_cons_eq h
  | cons x f => cases f <;> cases h
theorem s1_some {l : List T} {s : Str} (q : isS1 (mg none l) = some s) : lastO none l = some s := by
  obtain ⟨e1, e2⟩ := mg_end l none
  rw [isS1_is q] at e1 e2
  cases v : lastO none l with
  | some s' => obtain ⟨f, e⟩ := e1 s' v; cases app1 e.symm; rfl
  | none =>
    rcases e2 v with e | ⟨f, t, e, r⟩
    · cases e
    · rw [app1 e.symm] at r; exact nn r.symm
theorem s1_none {l : List T} (q : isS1 (mg none l) = none) (z : (mg none l).length = 1) : lastO none l = none := by
  obtain ⟨e1, _⟩ := mg_end l none
  cases v : lastO none l with
  | none => rfl
  | some s =>
    obtain ⟨f, e⟩ := e1 s v
    rw [e] at z q
    cases f with
    | nil => exact nn q.symm
    | cons => rw [List.length_append] at z; cases z
theorem concat_ok' {l : List T} (hc : ∀ t ∈ l, CF w m atext_part [bnd t] pi (optD (fx t), pi)) (hz : flens l ≤ 16777216) (hl : l.length ≤ 1000) : CF w (m + 1) afold_concat [jD (bnds l)] pi (bnd (mkJ (mg none l)), pi) := by
  obtain ⟨a, b, h⟩ := fc_go (w := w) (m := m) (pi := pi) (bnds l) l none [] none none hc (by rw [show plen none = 0 from rfl, Nat.zero_add]; exact hz) (by rw [show ([] ++ pend none : List T) = [] from rfl, List.length_nil, Nat.zero_add]; exact hl)
  refine ofRuns (u := false) (tt := true) (pm := true) (sA 1 (sl_ (fc_loop (bnds l)) h ?_))
  unfold mkJ
  cases q : isS1 (mg none l) with
  | some s =>
    rw [s1_some q, show ([] ++ mg none l : List T) = [.txt (some s)] from isS1_is q]
    exact sA 9 (fn (by kernel_rfl))
  | none =>
    by_cases z : (mg none l).length = 1
    · rw [s1_none q z]
      exact sb true (by kernel_rfl) (show decide (Int.ofNat (bnds ([] ++ mg none l)).length = Int.ofNat 1) = true from decide_eq_true (by rw [bnds_len]; exact congrArg Int.ofNat z)) (sA 9 (fn (by kernel_rfl)))
    · exact sb false (by kernel_rfl) (len1 (n := (bnds ([] ++ mg none l)).length) (by rw [bnds_len]; exact z)) (sA 9 (fn (by kernel_rfl)))
end
end Mine
end
noncomputable section
namespace Mine
open PySem PySem.W
theorem pcs_mem {t : T} {l : List T} (m : t ∈ l) : pc t ≤ pcs l := by
  induction l with
  | nil => cases m
  | cons a r ih => exact (List.mem_cons.mp m).elim (fun e => e ▸ Nat.le_add_right _ _) fun m => Nat.le_trans (ih m) (Nat.le_add_left _ _)
theorem pcx {t : T} (h : isX t = true) : pc t ≤ tc t + 1 := by
  cases t with
  | set => exact nf h
  | cond => exact nf h
  | join => exact Nat.le_succ _
  | _ => exact Nat.le_refl 1
theorem isX_fold {t : T} (h : isX t = true) : isX (foldT t) = true := by
  cases t with
  | join l =>
    show isX (mkJ (mg none (foldTs l))) = true
    unfold mkJ
    cases isS1 (mg none (foldTs l)) <;> rfl
  | set => exact nf h
  | cond => exact nf h
  | _ => exact h
theorem mg_len : ∀ (l : List T) (p : Option Str) (s : Str), mg p l = [.txt (some s)] → s.length ≤ plen p + flens l
  | [], p, s, h => by
    cases p with
    | none => cases h
    | some q => cases h; exact Nat.le_add_right _ _
  | t :: r, p, s, h => by
    cases f : fx t with
    | some s' =>
      rw [mg_some f] at h
      have := mg_len r _ s h
      rw [show plen (some (cat p s')) = (cat p s').length from rfl, cat_len] at this
      show s.length ≤ plen p + (flen t + flens r)
      unfold flen
      rw [f, ← Nat.add_assoc]; exact this
    | none =>
      rw [mg_none f] at h
      cases p with
      | none =>
        rw [show pend none ++ t :: mg none r = t :: mg none r from rfl] at h
        rw [List.head_eq_of_cons_eq h] at f
        exact nn f.symm
      | some q =>
        have := congrArg List.length h
        cases this
theorem flen_mkJ (l : List T) : flen (mkJ (mg none l)) ≤ flens l := by
  unfold mkJ
  cases h : isS1 (mg none l) with
  | none => exact Nat.zero_le _
  | some s => exact Nat.le_trans (mg_len l none s (isS1_is h)) (Nat.le_of_eq (Nat.zero_add _))
theorem flen_folds {l : List T} (h : ∀ t ∈ l, flen (foldT t) ≤ 2 * pc t) : flens (foldTs l) ≤ 2 * pcs l := by
  induction l with
  | nil => exact Nat.le_refl _
  | cons a r ih =>
    show flen (foldT a) + flens (foldTs r) ≤ 2 * (pc a + pcs r)
    rw [Nat.mul_add]
    exact Nat.add_le_add (h a (.head _)) (ih fun t m => h t (.tail _ m))
theorem flen_fold {n : Nat} {t : T} (h : OkT n t) : flen (foldT t) ≤ 2 * pc t ∧ (isX t = true → flen (foldT t) ≤ 2 * tc t + 2) := by
  induction h with
  | txt h =>
    rename_i w
    cases w with
    | none => exact ⟨Nat.zero_le _, fun _ => Nat.zero_le _⟩
    | some s => exact ⟨h s rfl, fun _ => h s rfl⟩
  | cond hc _ xa _ xb ea eb =>
    rename_i c a b _ _
    refine ⟨?_, fun h => nf h⟩
    have e1 : flen (foldT a) ≤ 2 * (tc a + tc b + 1) := Nat.le_trans (ea.2 xa) (by rw [Nat.mul_add, Nat.mul_add]; exact Nat.add_le_add_right (Nat.le_add_right _ _) 2)
    have e2 : flen (foldT b) ≤ 2 * (tc a + tc b + 1) := Nat.le_trans (eb.2 xb) (by rw [Nat.mul_add, Nat.mul_add]; exact Nat.add_le_add_right (Nat.le_add_left _ _) 2)
    show flen (foldC c (foldT a) (foldT b)) ≤ 2 * (tc a + tc b + 1)
    unfold foldC
    cases Nat.blt c 2 && (isTxt (foldT a) && isTxt (foldT b)) with
    | false => exact Nat.zero_le _
    | true =>
      show flen (pick c (foldT a) (foldT b)) ≤ _
      unfold pick
      split <;> assumption
  | join _ l1 l4 e =>
    rename_i l _
    have h : flen (foldT (.join l)) ≤ 2 * pcs l := Nat.le_trans (flen_mkJ _) (flen_folds fun t m => (e t m).1)
    exact ⟨Nat.le_trans h (Nat.mul_le_mul_left 2 (Nat.le_succ _)), fun _ => Nat.le_trans h (Nat.le_trans (Nat.mul_le_mul_left 2 (Nat.le_succ _)) (Nat.le_add_right _ 2))⟩
  | _ => exact ⟨Nat.zero_le _, fun _ => Nat.zero_le _⟩
theorem foldTs_length : ∀ l : List T, (foldTs l).length = l.length
  | [] => rfl
  | t :: r => congrArg Nat.succ (foldTs_length r)
noncomputable def bndL (t : T) : List D := match bnd t with
  | .tup l => l
  | _ => []
theorem bnd_tup (t : T) : bnd t = .tup (bndL t) := by cases t <;> rfl
section
variable {w : World} {pi : List Cell} {n : Nat}
theorem cu {a : Addr} {args : List D} {r : Res} (h : callA 5 a args pi = some r) : CF w (n + 7) a args pi r := up (ca h) (Nat.le_trans (by decide) (Nat.le_add_left 7 n))
noncomputable def knownB (t : T) : Bool := match t with
  | .txt _ => true
  | .null => true
  | .num _ => true
  | _ => false
theorem known_ok (t : T) : CF w 1 aknown [bnd t] pi (.bool (knownB t), pi) := by
  cases t with
  | txt w => cases w <;> exact ca (by kernel_rfl)
  | call o n => cases o <;> exact ca (by kernel_rfl)
  | _ => exact ca (by kernel_rfl)
theorem part_ok (t : T) : CF w 2 atext_part [bnd t] pi (optD (fx t), pi) := by
  refine ofR (st (by kernel_rfl) (known_ok (pi := pi) t) ?_)
  cases t with
  | txt w => cases w <;> exact fn (by kernel_rfl)
  | _ => exact fn (by kernel_rfl)
theorem known_x {t : T} (h : isX t = true) : (∃ w, t = .txt w) ∨ (knownB t = false ∧ isTxt t = false) := by
  cases t with
  | txt w => exact .inl ⟨w, rfl⟩
  | null => exact nf h
  | num => exact nf h
  | _ => exact .inr ⟨rfl, rfl⟩
abbrev cD (t a b : D) : D := .tup [nI 17, nI 13, t, a, b]
theorem choice_ok {c : Nat} {a b : T} (hc : c < 3) (ha : isX a = true) (hb : isX b = true) : CF w 6 afold_choice [cD (testD c) (bnd a) (bnd b)] pi (bnd (foldC c a b), pi) := by
  have ka := up (known_ok (w := w) (pi := pi) a) (show 1 ≤ 5 by decide)
  have kb := up (known_ok (w := w) (pi := pi) b) (show 1 ≤ 5 by decide)
  have h5 : 5 ≤ 5 := Nat.le_refl 5
  refine lt3 (P := fun c => CF w 6 afold_choice [cD (testD c) (bnd a) (bnd b)] pi (bnd (foldC c a b), pi)) hc ?_ ?_ (ofR (sC h5 1 (fn (by kernel_rfl))))
  all_goals
    refine ofR (sC h5 1 ?_)
    rcases known_x ha with ⟨wa, rfl⟩ | ⟨fa, ta⟩
    · rcases known_x hb with ⟨wb, rfl⟩ | ⟨fb, tb⟩
      · exact st (by kernel_rfl) ka (st (by kernel_rfl) kb (fn (by kernel_rfl)))
      · rw [fb] at kb
        unfold foldC
        rw [tb]
        exact st (by kernel_rfl) ka (st (by kernel_rfl) kb (fn (by kernel_rfl)))
    · rw [fa] at ka
      unfold foldC
      rw [ta]
      exact st (by kernel_rfl) ka (fn (by kernel_rfl))
theorem fa_test {c : Nat} (hc : c < 3) : CF w 3 afold_all [testD c] pi (testD c, pi) := lt3 (P := fun c => CF w 3 afold_all [testD c] pi (testD c, pi)) hc (ca (by kernel_rfl)) (ca (by kernel_rfl)) (ca (by kernel_rfl))
theorem testD_tup {c : Nat} (hc : c < 3) : ∃ l, testD c = .tup l := lt3 (P := fun c => ∃ l, testD c = .tup l) hc ⟨_, rfl⟩ ⟨_, rfl⟩ ⟨_, rfl⟩
abbrev FCF (w : World) (pi : List Cell) (n : Nat) (t : T) : Prop := CF w (n + 7) afold_all [bnd t] pi (bnd (foldT t), pi)
theorem fold_ok {t : T} (h : OkT n t) : pc t ≤ 1000 → FCF w pi n t := by
  have h5 : ∀ {n}, 5 ≤ n + 7 := fun {n} => Nat.le_trans (by decide) (Nat.le_add_left 7 n)
  induction h with
  | call => rename_i o _; intro _; cases o <;> exact cu (by kernel_rfl)
  | deleg h => rename_i n _; intro _; exact lt5 (P := fun i => FCF w pi (n + 1) (.deleg (dN i))) h (cu (by kernel_rfl)) (cu (by kernel_rfl)) (cu (by kernel_rfl)) (cu (by kernel_rfl)) (cu (by kernel_rfl))
  | set o x e =>
    rename_i n t
    intro hp
    have e := e (Nat.le_trans (pcx x) hp)
    unfold FCF at e
    rw [bnd_tup t] at e
    show CF w (n + 7 + 1) afold_all [.tup [nI 22, nI 13, locD 1, bnd t]] pi _
    rw [bnd_tup t]
    exact ofR (sC h5 2 (st (by kernel_rfl) e (sC h5 2 (fn (by kernel_rfl)))))
  | cond hc oa xa ob xb ea eb =>
    rename_i n c a b
    intro hp
    have p1 := Nat.le_trans (pcx xa) (Nat.le_trans (Nat.add_le_add_right (Nat.le_add_right _ _) 1) hp)
    have p2 := Nat.le_trans (pcx xb) (Nat.le_trans (Nat.add_le_add_right (Nat.le_add_left _ _) 1) hp)
    have ea := ea p1
    have eb := eb p2
    have f : CF w (n + 7) afold [cD (testD c) (bnd (foldT a)) (bnd (foldT b))] pi (bnd (foldC c (foldT a) (foldT b)), pi) := up (ofR (st (by kernel_rfl) (choice_ok (pi := pi) hc (isX_fold xa) (isX_fold xb)) (fn (by kernel_rfl)))) (Nat.le_add_left 7 n)
    have ft : CF w (n + 7) afold_all [testD c] pi (testD c, pi) := up (fa_test hc) (Nat.le_trans (by decide) (Nat.le_add_left 7 n))
    obtain ⟨lt, et⟩ := testD_tup hc
    unfold FCF at ea eb
    rw [bnd_tup a] at ea
    rw [bnd_tup b] at eb
    rw [et] at f ft
    show CF w (n + 7 + 1) afold_all [cD (testD c) (bnd a) (bnd b)] pi _
    rw [bnd_tup a, bnd_tup b, et]
    exact ofR (sC h5 1 (st (by kernel_rfl) ft (st (by kernel_rfl) ea (st (by kernel_rfl) eb (sC h5 1 (st (by kernel_rfl) f (fn (by kernel_rfl))))))))
  | join o l1 l4 e =>
    rename_i n l
    intro hp
    have hp : pcs l ≤ 1000 := Nat.le_of_succ_le hp
    have e : ∀ t ∈ l, FCF w pi n t := fun t m => e t m (Nat.le_trans (pcs_mem m) hp)
    have hz : flens (foldTs l) ≤ 16777216 := Nat.le_trans (flen_folds fun t m => (flen_fold (o t m)).1) (Nat.le_trans (Nat.mul_le_mul_left 2 hp) (by decide))
    have cj := concat_ok' (w := w) (pi := pi) (l := foldTs l) (fun t _ => part_ok t) hz (by rw [foldTs_length]; exact Nat.le_trans l4 (by decide))
    have f : CF w (n + 7) afold [jD (bnds (foldTs l))] pi (bnd (mkJ (mg none (foldTs l))), pi) := up (ofR (st (by kernel_rfl) cj (fn (by kernel_rfl)))) (Nat.le_trans (by decide) (Nat.le_add_left 7 n))
    clear cj hz hp o
    revert f
    refine pcs4 (P := FCF w pi n) (Q := fun l => CF w (n + 7) afold [jD (bnds (foldTs l))] pi (bnd (mkJ (mg none (foldTs l))), pi) → FCF w pi (n + 1) (.join l)) e l1 l4 ?_ ?_ ?_ ?_
    · exact fun {a} ea f => ofR (sC h5 1 (st (by kernel_rfl) ea (sC h5 1 (st (by kernel_rfl) f (fn (by kernel_rfl))))))
    · exact fun {a b} ea eb f => ofR (sC h5 1 (st (by kernel_rfl) ea (st (by kernel_rfl) eb (sC h5 1 (st (by kernel_rfl) f (fn (by kernel_rfl)))))))
    · exact fun {a b c} ea eb ec f => ofR (sC h5 1 (st (by kernel_rfl) ea (st (by kernel_rfl) eb (st (by kernel_rfl) ec (sC h5 1 (st (by kernel_rfl) f (fn (by kernel_rfl))))))))
    · exact fun {a b c d} ea eb ec ed f => ofR (sC h5 1 (st (by kernel_rfl) ea (st (by kernel_rfl) eb (st (by kernel_rfl) ec (st (by kernel_rfl) ed (sC h5 1 (st (by kernel_rfl) f (fn (by kernel_rfl)))))))))
  | _ => exact fun _ => cu (by kernel_rfl)
end
end Mine
end
noncomputable section
namespace Mine
open PySem PySem.W
noncomputable def byp (k : Nat) : Bool := hasK (Nat.beq k) [7, 2, 1, 17, 18, 19]
noncomputable def boxE (k : Nat) (x : D) : D := match byp k with
  | true => .tup [nI 19, nI 12, x, nI 4, nI 0]
  | false => x
noncomputable def bk (k : Nat) : Nat := match byp k with
  | true => 12
  | false => k
noncomputable def asO (k : Nat) (x : D) : D := match Nat.beq k 13 with
  | true => .tup [nI 19, nI 12, x, nI 2, nI 0]
  | false => x
noncomputable def jnD (i : Nat) (x y : D) : D := .tup [nI 8, nI 13, .none, .tup [nI 13, nI i, .tup []], .tup [x, y], nI 0]
noncomputable def joinE (k1 : Nat) (x : D) (k2 : Nat) (y : D) : D := match Nat.beq k1 13 && Nat.beq k2 13 with
  | true => jnD 10 x y
  | false => jnD 20 (asO k1 x) (asO k2 y)
noncomputable def emptyE : D := .tup [nI 1, nI 13, .str s0]
noncomputable def joinR (x : D) : List (Nat × D) → D
  | [] => x
  | p :: r => joinR (joinE 13 x p.1 p.2) r
noncomputable def joinL (l : List (Nat × D)) : D := match l with
  | [] => .none
  | p :: r => match r with
    | [] => joinE p.1 p.2 13 emptyE
    | q :: r => joinR (joinE p.1 p.2 q.1 q.2) r
noncomputable def kdT (t : T) : Nat := match t with
  | .null => 12
  | .num _ => 7
  | .loc i => kindN i
  | .call o _ => kO o
  | .deleg _ => 16
  | _ => 13
noncomputable def fnD (i : Nat) (o : D) : D := .tup [nI 36, nI 16, o, .tup [nI 12, nI (50 + i), .tup []], nI 1]
noncomputable def lowO : Nat → D
  | 0 => .none
  | i => boxE (kindN i) (locD i)
mutual
noncomputable def lowD : T → D
  | .txt w => .tup [nI 1, nI 13, optD w]
  | .null => .tup [nI 1, nI 12, .none]
  | .num i => .tup [nI 1, nI 7, .int i]
  | .loc i => locD i
  | .set t => .tup [nI 22, nI 13, locD 1, lowD t]
  | .call o n => callD o n
  | .cond c a b => .tup [nI 17, nI 13, testD c, lowD a, lowD b]
  | .deleg i => fnD i (lowO i)
  | .join l => joinL (lowP l)
noncomputable def lowP : List T → List (Nat × D)
  | [] => []
  | t :: r => (bk (kdT t), boxE (kdT t) (lowD t)) :: lowP r
end
inductive OkS : Nat → T → Prop
  | txt {n : Nat} {w : Option Str} : (∀ s, w = some s → s.length ≤ 100) → OkS n (.txt w)
  | null {n : Nat} : OkS n .null
  | num {n i : Nat} : i < 3 → OkS n (.num (.ofNat i - 1))
  | loc {n i : Nat} : i < 8 → OkS n (.loc (i + 1))
  | set {n : Nat} {t : T} : OkS n t → kdT t = 13 → OkS (n + 1) (.set t)
  | call {n k : Nat} {o : Bool} : k < 4 → OkS n (.call o k)
  | cond {n c : Nat} {a b : T} : c < 3 → OkS n a → kdT a = 13 → OkS n b → kdT b = 13 → OkS (n + 1) (.cond c a b)
  | deleg {n i : Nat} : i < 5 → OkS n (.deleg (dN i))
  | join {n : Nat} {l : List T} : (∀ t ∈ l, OkS n t) → 1 ≤ l.length → l.length ≤ 4 → OkS (n + 1) (.join l)
theorem OkS.up {n : Nat} {t : T} (h : OkS n t) : OkS (n + 1) t := by
  induction h with
  | txt h => exact .txt h
  | num h => exact .num h
  | loc h => exact .loc h
  | set _ q e => exact .set e q
  | call h => exact .call h
  | cond hc _ qa _ qb ea eb => exact .cond hc ea qa eb qb
  | deleg h => exact .deleg h
  | join _ l1 l4 e => exact .join e l1 l4
  | _ => constructor
theorem kd_X {t : T} (h : isX t = true) : kdT t = 13 := by
  cases t with
  | loc i => cases Nat.eq_of_beq_eq_true h; rfl
  | call o n => cases o; rfl; exact nf h
  | null => exact nf h
  | num => exact nf h
  | deleg => exact nf h
  | _ => rfl
theorem mg_mem : ∀ {l : List T} {p : Option Str} {t : T}, t ∈ mg p l → (∃ s, t = .txt (some s) ∧ s.length ≤ plen p + flens l) ∨ t ∈ l
  | [], p, t, m => by
    cases p with
    | none => cases m
    | some s => exact .inl ⟨s, List.mem_singleton.mp m, Nat.le_refl _⟩
  | a :: r, p, t, m => by
    cases f : fx a with
    | some s =>
      rw [mg_some f] at m
      refine (mg_mem m).imp (fun ⟨s', e, h⟩ => ⟨s', e, Nat.le_trans h ?_⟩) (List.mem_cons_of_mem _)
      show (cat p s).length + flens r ≤ plen p + (flen a + flens r)
      rw [cat_len, show flen a = s.length by unfold flen; rw [f], Nat.add_assoc]; exact Nat.le_refl _
    | none =>
      rw [mg_none f] at m
      rcases List.mem_append.mp m with m | m
      · cases p with
        | none => cases m
        | some s => exact .inl ⟨s, List.mem_singleton.mp m, Nat.le_add_right _ _⟩
      · refine (List.mem_cons.mp m).elim (fun e => .inr (e ▸ .head _)) fun m => (mg_mem m).imp (fun ⟨s', e, h⟩ => ⟨s', e, Nat.le_trans h ?_⟩) (List.mem_cons_of_mem _)
        rw [show plen none = 0 from rfl, Nat.zero_add]
        exact Nat.le_trans (Nat.le_add_left _ _) (Nat.le_add_left _ _)
theorem mg_le : ∀ (l : List T) (p : Option Str), (mg p l).length ≤ (pend p).length + l.length ∧ (1 ≤ (pend p).length + l.length → 1 ≤ (mg p l).length)
  | [], p => ⟨Nat.le_refl _, id⟩
  | a :: r, p => by
    cases f : fx a with
    | some s =>
      rw [mg_some f]
      obtain ⟨i1, i2⟩ := mg_le r (some (cat p s))
      have i1 : _ ≤ 1 + r.length := i1
      exact ⟨Nat.le_trans i1 (by rw [Nat.add_comm 1]; exact Nat.le_add_left _ _), fun _ => i2 (Nat.le_add_right 1 _)⟩
    | none =>
      rw [mg_none f, List.length_append]
      obtain ⟨i1, _⟩ := mg_le r none
      have i1 : _ ≤ 0 + r.length := i1
      rw [Nat.zero_add] at i1
      exact ⟨Nat.add_le_add_left (Nat.succ_le_succ i1) _, fun _ => Nat.le_trans (Nat.succ_le_succ (Nat.zero_le _)) (Nat.le_add_left _ _)⟩
theorem mem_folds : ∀ {l : List T} {t : T}, t ∈ foldTs l → ∃ t' ∈ l, t = foldT t'
  | a :: _, _, m => (List.mem_cons.mp m).elim (fun e => ⟨a, .head _, e⟩) fun m => let ⟨t', m', e⟩ := mem_folds m; ⟨t', .tail _ m', e⟩
theorem isS1_mem {l : List T} {s : Str} (h : isS1 l = some s) : .txt (some s) ∈ l := by rw [isS1_is h]; exact .head _
theorem mkJ_ok {n : Nat} {l : List T} (h : ∀ t ∈ l, OkS n t) (l1 : 1 ≤ l.length) (l4 : l.length ≤ 4) : OkS (n + 1) (mkJ l) := by
  unfold mkJ
  cases e : isS1 l with
  | some s => exact (h _ (isS1_mem e)).up
  | none => exact .join h l1 l4
theorem okS_of {n : Nat} {t : T} (h : OkT n t) : pc t ≤ 40 → OkS n (foldT t) := by
  induction h with
  | txt h => exact fun _ => .txt fun s e => Nat.le_trans (h s e) (by decide)
  | null => exact fun _ => .null
  | num h => exact fun _ => .num h
  | loc h => exact fun _ => .loc h
  | set _ x e => exact fun hp => .set (e (Nat.le_trans (pcx x) hp)) (kd_X (isX_fold x))
  | call h => exact fun _ => .call h
  | cond hc _ xa _ xb ea eb =>
    rename_i n c a b _ _
    intro hp
    have ea := ea (Nat.le_trans (pcx xa) (Nat.le_trans (Nat.add_le_add_right (Nat.le_add_right _ _) 1) hp))
    have eb := eb (Nat.le_trans (pcx xb) (Nat.le_trans (Nat.add_le_add_right (Nat.le_add_left _ _) 1) hp))
    show OkS (n + 1) (foldC c (foldT a) (foldT b))
    unfold foldC
    cases Nat.blt c 2 && (isTxt (foldT a) && isTxt (foldT b)) with
    | false => exact .cond hc ea (kd_X (isX_fold xa)) eb (kd_X (isX_fold xb))
    | true =>
      show OkS (n + 1) (pick c (foldT a) (foldT b))
      unfold pick
      split
      · exact ea.up
      · exact eb.up
  | deleg h => exact fun _ => .deleg h
  | join o l1 l4 e =>
    rename_i n l
    intro hp
    have hp := Nat.le_of_succ_le hp
    obtain ⟨i1, i2⟩ := mg_le (foldTs l) none
    rw [foldTs_length] at i1 i2
    have fz := flen_folds (l := l) fun t m => (flen_fold (o t m)).1
    refine mkJ_ok (fun t m => ?_) (i2 (Nat.le_trans l1 (Nat.le_add_left _ _))) (Nat.le_trans i1 (by rw [show (pend none).length = 0 from rfl, Nat.zero_add]; exact l4))
    rcases mg_mem m with ⟨s, rfl, h⟩ | m
    · rw [show plen none = 0 from rfl, Nat.zero_add] at h
      exact .txt fun s' e => by cases e; exact Nat.le_trans h (Nat.le_trans fz (Nat.le_trans (Nat.mul_le_mul_left 2 hp) (by decide)))
    · obtain ⟨t', m', rfl⟩ := mem_folds m; exact e t' m' (Nat.le_trans (pcs_mem m') hp)
theorem okS_id {n : Nat} {t : T} (h : OkT n t) : OkS n t := by
  induction h with
  | txt h => exact .txt fun s e => Nat.le_trans (h s e) (by decide)
  | null => exact .null
  | num h => exact .num h
  | loc h => exact .loc h
  | set _ x e => exact .set e (kd_X x)
  | call h => exact .call h
  | cond hc _ xa _ xb ea eb => exact .cond hc ea (kd_X xa) eb (kd_X xb)
  | deleg h => exact .deleg h
  | join _ l1 l4 e => exact .join e l1 l4
noncomputable def kl : List Nat := [13, 12, 7, 2, 1, 16, 17, 18, 19]
noncomputable def b3 : List Nat := [13, 12, 16]
theorem hasK_mem : ∀ {l : List Nat} {k : Nat}, hasK (Nat.beq k) l = true → k ∈ l
  | a :: r, k, h => by
    unfold hasK at h
    cases q : Nat.beq k a with
    | true => exact Nat.eq_of_beq_eq_true q ▸ .head _
    | false => rw [q] at h; exact .tail _ (hasK_mem h)
theorem kd_in {n : Nat} {t : T} (h : OkS n t) : kdT t ∈ kl := by
  refine hasK_mem ?_
  cases h with
  | loc h => exact lt8 (P := fun i => hasK (Nat.beq (kindN (i + 1))) kl = true) h rfl rfl rfl rfl rfl rfl rfl rfl
  | call => rename_i o _; cases o <;> rfl
  | _ => rfl
theorem bk_in {k : Nat} (h : k ∈ kl) : bk k ∈ b3 := hasK_mem (List.map_inj_left.mp (show kl.map (fun k => hasK (Nat.beq (bk k)) b3) = kl.map fun _ => true from rfl) k h)
noncomputable def Shape (k : Nat) (x : D) : Prop := ∃ o r, x = .tup (o :: nI k :: r)
section
variable {w : World} {c0 c1 : Cell} {m n : Nat}
theorem boxed_ok {k : Nat} {x : D} (h : k ∈ kl) (s : Shape k x) : CF w 5 aboxed [.cell 25, x] (PL c0 c1) (boxE k x, PL c0 c1) := by
  obtain ⟨o, r, rfl⟩ := s
  exact ca (List.map_inj_left.mp (show kl.map (fun k => callA 5 aboxed [.cell 25, .tup (o :: nI k :: r)] (PL c0 c1)) = kl.map fun k => some (boxE k (.tup (o :: nI k :: r)), PL c0 c1) by kernel_rfl) k h)
theorem joined_ok {k1 k2 : Nat} {x y : D} {pi : List Cell} (h1 : k1 ∈ b3) (h2 : k2 ∈ b3) (s1 : Shape k1 x) (s2 : Shape k2 y) : CF w 2 ajoined [x, y] pi (joinE k1 x k2 y, pi) := by
  obtain ⟨o1, r1, rfl⟩ := s1
  obtain ⟨o2, r2, rfl⟩ := s2
  have e := List.map_inj_left.mp (show b3.map (fun k => b3.map fun j => callA 2 ajoined [.tup (o1 :: nI k :: r1), .tup (o2 :: nI j :: r2)] pi) = b3.map fun k => b3.map fun j => some (joinE k (.tup (o1 :: nI k :: r1)) j (.tup (o2 :: nI j :: r2)), pi) by kernel_rfl) k1 h1
  exact ca (List.map_inj_left.mp e k2 h2)
theorem joinE_shape (k1 : Nat) (x : D) (k2 : Nat) (y : D) : Shape 13 (joinE k1 x k2 y) := by
  unfold joinE
  cases Nat.beq k1 13 && Nat.beq k2 13 <;> exact ⟨_, _, rfl⟩
theorem joinR_shape : ∀ (l : List (Nat × D)) {x : D}, Shape 13 x → Shape 13 (joinR x l)
  | [], _, h => h
  | p :: r, x, _ => joinR_shape r (joinE_shape 13 x p.1 p.2)
theorem joinL_shape (l : List T) (h : 1 ≤ l.length) : Shape 13 (joinL (lowP l)) := by
  cases l with
  | nil => exact absurd h (Nat.not_succ_le_zero _)
  | cons t r => cases r with
    | nil => exact joinE_shape _ _ _ _
    | cons u r => exact joinR_shape _ (joinE_shape _ _ _ _)
theorem lowD_shape {t : T} (h : OkS n t) : Shape (kdT t) (lowD t) := by
  cases h with
  | join _ l1 _ => exact joinL_shape _ l1
  | _ => exact ⟨_, _, rfl⟩
theorem boxE_shape {k : Nat} {x : D} (s : Shape k x) : Shape (bk k) (boxE k x) := by
  unfold boxE bk
  cases byp k with
  | true => exact ⟨_, _, rfl⟩
  | false => exact s
noncomputable def lvl : Nat → Nat
  | 0 => 8
  | n + 1 => lvl n + 3
theorem lvl8 : ∀ n, 8 ≤ lvl n
  | 0 => Nat.le_refl _
  | n + 1 => Nat.le_trans (lvl8 n) (Nat.le_add_right _ _)
abbrev LCF (w : World) (c0 c1 : Cell) (n : Nat) (t : T) : Prop := CF w (lvl n) alow_expr [.cell 25, bnd t] (PL c0 c1) (lowD t, PL c0 c1)
theorem cl {a : Addr} {args : List D} {r : Res} {pi : List Cell} (h : callA 8 a args pi = some r) : CF w (lvl n) a args pi r := up (ca h) (lvl8 n)
noncomputable def LP (w : World) (c0 c1 : Cell) (n : Nat) (t : T) : Prop := CF w (lvl n + 1) aLow_expr [.cell 25, bnd t] (PL c0 c1) (lowD t, PL c0 c1) ∧ CF w (lvl n + 1) aboxed [.cell 25, lowD t] (PL c0 c1) (boxE (kdT t) (lowD t), PL c0 c1) ∧ Shape (bk (kdT t)) (boxE (kdT t) (lowD t)) ∧ bk (kdT t) ∈ b3
theorem low_ok {t : T} (h : OkS n t) : LCF w c0 c1 n t := by
  have i13 : 13 ∈ b3 := .head _
  induction h with
  | loc h => rename_i n _; exact lt8 (P := fun i => LCF w c0 c1 n (.loc (i + 1))) h (cl (by kernel_rfl)) (cl (by kernel_rfl)) (cl (by kernel_rfl)) (cl (by kernel_rfl)) (cl (by kernel_rfl)) (cl (by kernel_rfl)) (cl (by kernel_rfl)) (cl (by kernel_rfl))
  | call => rename_i o _; cases o <;> exact cl (by kernel_rfl)
  | deleg h => rename_i n _; exact lt5 (P := fun i => LCF w c0 c1 n (.deleg (dN i))) h (cl (by kernel_rfl)) (cl (by kernel_rfl)) (cl (by kernel_rfl)) (cl (by kernel_rfl)) (cl (by kernel_rfl))
  | set o k e =>
    rename_i n t
    have h5 : 5 ≤ lvl n + 1 := Nat.le_trans (by decide) (Nat.le_trans (lvl8 n) (Nat.le_add_right _ _))
    have e := Mine.up e (Nat.le_add_right (lvl n) 1)
    rw [bnd_tup t] at e
    unfold LCF
    show CF w (lvl n + 1 + 1 + 1) alow_expr [.cell 25, .tup [nI 22, nI 13, locD 1, bnd t]] (PL c0 c1) (lowD (.set t), PL c0 c1)
    rw [bnd_tup t]
    have p : CF w (lvl n + 2) alow_parts [.cell 25, .tup [nI 22, nI 13, locD 1, .tup (bndL t)]] (PL c0 c1) (lowD (.set t), PL c0 c1) := ofR (sC h5 2 (st (by kernel_rfl) e (sC h5 1 (fn (by kernel_rfl)))))
    exact ofR (st (by kernel_rfl) p (fn (by kernel_rfl)))
  | cond hc oa ka ob kb ea eb =>
    rename_i n c a b
    have h5 : 5 ≤ lvl n + 1 := Nat.le_trans (by decide) (Nat.le_trans (lvl8 n) (Nat.le_add_right _ _))
    have ea := Mine.up ea (Nat.le_add_right (lvl n) 1)
    have eb := Mine.up eb (Nat.le_add_right (lvl n) 1)
    rw [bnd_tup a] at ea
    rw [bnd_tup b] at eb
    have ft : CF w (lvl n + 1) alow_expr [.cell 25, testD c] (PL c0 c1) (testD c, PL c0 c1) := lt3 (P := fun c => CF w (lvl n + 1) alow_expr [.cell 25, testD c] (PL c0 c1) (testD c, PL c0 c1)) hc (Mine.up (ca (by kernel_rfl)) h5) (Mine.up (ca (by kernel_rfl)) h5) (Mine.up (ca (by kernel_rfl)) h5)
    unfold LCF
    show CF w (lvl n + 1 + 1 + 1) alow_expr [.cell 25, cD (testD c) (bnd a) (bnd b)] (PL c0 c1) (cD (testD c) (lowD a) (lowD b), PL c0 c1)
    obtain ⟨lt, et⟩ := testD_tup hc
    rw [et] at ft ⊢
    rw [bnd_tup a, bnd_tup b]
    have p : CF w (lvl n + 2) alow_parts [.cell 25, cD (.tup lt) (.tup (bndL a)) (.tup (bndL b))] (PL c0 c1) (cD (.tup lt) (lowD a) (lowD b), PL c0 c1) := ofR (sC h5 1 (st (by kernel_rfl) ft (st (by kernel_rfl) ea (st (by kernel_rfl) eb (sC h5 1 (fn (by kernel_rfl)))))))
    exact ofR (st (by kernel_rfl) p (fn (by kernel_rfl)))
  | join o l1 l4 e =>
    rename_i n l
    have h5 : 5 ≤ lvl n + 1 := Nat.le_trans (by decide) (Nat.le_trans (lvl8 n) (Nat.le_add_right _ _))
    have h2 : 2 ≤ lvl n + 1 := Nat.le_trans (by decide) h5
    have p : ∀ t ∈ l, LP w c0 c1 n t := fun t m => ⟨ofR (st (by kernel_rfl) (e t m) (fn (by kernel_rfl))), Mine.up (boxed_ok (kd_in (o t m)) (lowD_shape (o t m))) h5, boxE_shape (lowD_shape (o t m)), bk_in (kd_in (o t m))⟩
    clear e o h5
    have fin : ∀ {l : List T}, CF w (lvl n + 2) aLowConcat_low [.cell 31, .cell 25, bnd (.join l)] (PL c0 c1) (lowD (.join l), PL c0 c1) → LCF w c0 c1 (n + 1) (.join l) := fun {l} h => ofR (m := lvl n + 2) (st (by kernel_rfl) h (fn (by kernel_rfl)))
    refine pcs4 (P := LP w c0 c1 n) (Q := fun l => LCF w c0 c1 (n + 1) (.join l)) p l1 l4 ?_ ?_ ?_ ?_
    · rintro a ⟨a1, a2, a3, a4⟩
      have j := joined_ok (w := w) (pi := PL c0 c1) a4 i13 a3 (⟨nI 1, [.str s0], rfl⟩ : Shape 13 emptyE)
      exact fin (ofR (st (by kernel_rfl) a1 (st (by kernel_rfl) a2 (st (by kernel_rfl) (Mine.up j h2) (fn (by kernel_rfl))))))
    · rintro a b ⟨a1, a2, a3, a4⟩ ⟨b1, b2, b3, b4⟩
      have j := joined_ok (w := w) (pi := PL c0 c1) a4 b4 a3 b3
      exact fin (ofR (st (by kernel_rfl) a1 (st (by kernel_rfl) a2 (st (by kernel_rfl) b1 (st (by kernel_rfl) b2 (st (by kernel_rfl) (Mine.up j h2) (fn (by kernel_rfl))))))))
    · rintro a b d ⟨a1, a2, a3, a4⟩ ⟨b1, b2, b3, b4⟩ ⟨d1, d2, d3, d4⟩
      have j := joined_ok (w := w) (pi := PL c0 c1) a4 b4 a3 b3
      have j2 := joined_ok (w := w) (pi := PL c0 c1) i13 d4 (joinE_shape (bk (kdT a)) (boxE (kdT a) (lowD a)) (bk (kdT b)) (boxE (kdT b) (lowD b))) d3
      exact fin (ofR (st (by kernel_rfl) a1 (st (by kernel_rfl) a2 (st (by kernel_rfl) b1 (st (by kernel_rfl) b2 (st (by kernel_rfl) d1 (st (by kernel_rfl) d2 (st (by kernel_rfl) (Mine.up j h2) (st (by kernel_rfl) (Mine.up j2 h2) (fn (by kernel_rfl)))))))))))
    · rintro a b d f ⟨a1, a2, a3, a4⟩ ⟨b1, b2, b3, b4⟩ ⟨d1, d2, d3, d4⟩ ⟨f1, f2, f3, f4⟩
      have j := joined_ok (w := w) (pi := PL c0 c1) a4 b4 a3 b3
      have j2 := joined_ok (w := w) (pi := PL c0 c1) i13 d4 (joinE_shape (bk (kdT a)) (boxE (kdT a) (lowD a)) (bk (kdT b)) (boxE (kdT b) (lowD b))) d3
      have j3 := joined_ok (w := w) (pi := PL c0 c1) i13 f4 (joinE_shape 13 (joinE (bk (kdT a)) (boxE (kdT a) (lowD a)) (bk (kdT b)) (boxE (kdT b) (lowD b))) (bk (kdT d)) (boxE (kdT d) (lowD d))) f3
      exact fin (ofR (st (by kernel_rfl) a1 (st (by kernel_rfl) a2 (st (by kernel_rfl) b1 (st (by kernel_rfl) b2 (st (by kernel_rfl) d1 (st (by kernel_rfl) d2 (st (by kernel_rfl) f1 (st (by kernel_rfl) f2 (st (by kernel_rfl) (Mine.up j h2) (st (by kernel_rfl) (Mine.up j2 h2) (st (by kernel_rfl) (Mine.up j3 h2) (fn (by kernel_rfl))))))))))))))
  | _ => exact cl (by kernel_rfl)
end
end Mine
end
noncomputable section
namespace Mine
open PySem PySem.W
inductive VV where
  | nul
  | str (s : Str)
  | prim (k : Nat) (i : Int)
noncomputable def VV.d (v : VV) : D := match v with
  | .nul => .none
  | .str s => .str s
  | .prim k i => .tup [nI k, .int i]
noncomputable def sTrue : Str := ⟨⟨[nat_lit 84, nat_lit 114, nat_lit 117, nat_lit 101]⟩⟩
noncomputable def sFalse : Str := ⟨⟨[nat_lit 70, nat_lit 97, nat_lit 108, nat_lit 115, nat_lit 101]⟩⟩
noncomputable def boolS (i : Int) : Str := match i with
  | .ofNat n => match n with
    | 0 => sFalse
    | _ => sTrue
  | _ => sTrue
noncomputable def chrS (i : Int) : Str := match i with
  | .ofNat n => ⟨#[n]⟩
  | i => intText i
noncomputable def saidP (k : Nat) (i : Int) : Str := match k with
  | 1 => boolS i
  | 2 => chrS i
  | _ => intText i
noncomputable def said (v : VV) : Str := match v with
  | .nul => s0
  | .str s => s
  | .prim k i => saidP k i
abbrev sl (v : VV) : Nat := (said v).length
noncomputable def sm (i : Int) : Prop := small i = true ∧ (intText i).length ≤ 12
inductive OkV : VV → Prop
  | nul : OkV .nul
  | str {s : Str} : OkV (.str s)
  | b0 : OkV (.prim 1 (.ofNat 0))
  | b1 : OkV (.prim 1 (.ofNat 1))
  | ch {n : Nat} : n < 128 → OkV (.prim 2 (.ofNat n))
  | i0 {i : Int} : sm i → OkV (.prim 0 i)
  | i7 {i : Int} : sm i → OkV (.prim 7 i)
noncomputable def isS (v : VV) : Bool := match v with
  | .prim _ _ => false
  | _ => true
theorem isS_ok {v : VV} (h : isS v = true) : OkV v := by
  cases v with
  | nul => exact .nul
  | str => exact .str
  | prim => exact nf h
theorem sl_prim {k : Nat} {i : Int} (h : OkV (.prim k i)) : sl (.prim k i) ≤ 12 := by
  cases h with
  | b0 => exact Nat.le_of_ble_eq_true (by kernel_rfl)
  | b1 => exact Nat.le_of_ble_eq_true (by kernel_rfl)
  | ch h => exact (by decide : 1 ≤ 12)
  | i0 h => exact h.2
  | i7 h => exact h.2
theorem smL (n : Nat) (h : n < 70) : sm (.ofNat n - 5) := by
  have e : (List.range 70).map (fun n => small (.ofNat n - 5) && Nat.ble (intText (.ofNat n - 5)).length 12) = (List.range 70).map fun _ => true := by kernel_rfl
  obtain ⟨a, b⟩ := Bool.and_eq_true_iff.mp (List.map_inj_left.mp e n (List.mem_range.mpr h))
  exact ⟨a, Nat.le_of_ble_eq_true b⟩
structure Va where
  v2 : VV
  n3 : Int
  n4 : Nat
  n5 : Nat
  v6 : VV
  n7 : Nat
  v8 : VV
structure OkVa (ε : Va) : Prop where
  v2 : OkV ε.v2 ∧ sl ε.v2 ≤ 12
  n3 : sm ε.n3
  n4 : ε.n4 < 128
  n5 : ε.n5 < 2
  v6 : OkV ε.v6 ∧ sl ε.v6 ≤ 12
  n7 : sm (.ofNat ε.n7)
  v8 : OkV ε.v8 ∧ sl ε.v8 ≤ 12
abbrev SS1 := VV × List D
noncomputable def vks : List D := [nI 1, nI 2, nI 3, nI 4, nI 5, nI 6, nI 7, nI 8]
noncomputable def vds (ε : Va) (v : VV) : List D := [.tup [nI 13, v.d], .tup [nI 12, ε.v2.d], .tup [nI 7, .int ε.n3], .tup [nI 2, nI ε.n4], .tup [nI 1, nI ε.n5], .tup [nI 0, ε.v6.d], .tup [nI 0, .tup [nI 0, nI ε.n7]], .tup [nI 0, ε.v8.d]]
noncomputable def sVars : Str := ⟨⟨[nat_lit 118, nat_lit 97, nat_lit 114, nat_lit 115]⟩⟩
noncomputable def sLog : Str := ⟨⟨[nat_lit 108, nat_lit 111, nat_lit 103]⟩⟩
noncomputable def sWrong : Str := ⟨⟨[nat_lit 119, nat_lit 114, nat_lit 111, nat_lit 110, nat_lit 103]⟩⟩
noncomputable def asObj (ε : Va) (v1 : VV) : Nat → VV
  | 1 => v1
  | 2 => ε.v2
  | 3 => .prim 7 ε.n3
  | 4 => .prim 2 (.ofNat ε.n4)
  | 5 => .prim 1 (.ofNat ε.n5)
  | 6 => ε.v6
  | 7 => .prim 0 (.ofNat ε.n7)
  | _ => ε.v8
noncomputable def sE : Str := ⟨⟨[nat_lit 101]⟩⟩
noncomputable def sF : Str := ⟨⟨[nat_lit 102]⟩⟩
noncomputable def given (o : Bool) : Nat → VV
  | 0 => .nul
  | 1 => .str sE
  | 2 => .str s0
  | _ => match o with
    | true => .prim 7 40
    | false => .str sF
noncomputable def delOf (ε : Va) (v1 : VV) : Nat → VV
  | 0 => .nul
  | i => asObj ε v1 i
noncomputable def tst (ε : Va) : Nat → Bool
  | 0 => false
  | 1 => true
  | _ => !Nat.beq ε.n5 0
noncomputable def txtV : Option Str → VV
  | none => .nul
  | some w => .str w
mutual
noncomputable def mean (ε : Va) : T → SS1 → VV × SS1
  | .txt w, s => (txtV w, s)
  | .null, s => (.nul, s)
  | .num i, s => (.prim 7 i, s)
  | .loc i, s => (asObj ε s.1 i, s)
  | .set t, s => ((mean ε t s).1, (mean ε t s).1, (mean ε t s).2.2 ++ [.tup [.str sSet, (mean ε t s).1.d]])
  | .call o n, s => (given o n, s.1, s.2 ++ [.tup [.str sCall, nI (kO o), nI n]])
  | .cond c a b, s => match tst ε c with
    | true => mean ε a s
    | false => mean ε b s
  | .deleg i, s => (.prim 0 (.ofNat (50 + i)), s.1, s.2 ++ [.tup [.str sDeleg, (delOf ε s.1 i).d]])
  | .join l, s => (.str (glue ((means ε l s).1.map said)), (means ε l s).2)
noncomputable def means (ε : Va) : List T → SS1 → List VV × SS1
  | [], s => ([], s)
  | t :: r, s => ((mean ε t s).1 :: (means ε r (mean ε t s).2).1, (means ε r (mean ε t s).2).2)
end
mutual
noncomputable def prd : T → Nat
  | .set t => prd t
  | .cond _ a b => max (prd a) (prd b)
  | .join l => l.length * prds l
  | _ => 1
noncomputable def prds : List T → Nat
  | [] => 1
  | t :: r => prd t * prds r
end
mutual
noncomputable def eff : T → Nat
  | .set t => eff t + 1
  | .cond _ a b => max (eff a) (eff b)
  | .join l => effs l
  | .call _ _ => 1
  | .deleg _ => 1
  | _ => 0
noncomputable def effs : List T → Nat
  | [] => 0
  | t :: r => eff t + effs r
end
theorem prds_pos : ∀ {l : List T}, (∀ t ∈ l, 1 ≤ prd t) → 1 ≤ prds l
  | [], _ => Nat.le_refl _
  | _ :: _, h => Nat.mul_pos (h _ (.head _)) (prds_pos fun t m => h t (.tail _ m))
theorem prd_pos {n : Nat} {t : T} (h : OkS n t) : 1 ≤ prd t := by
  induction h with
  | set _ _ e => exact e
  | cond _ _ _ _ _ ea _ => exact Nat.le_trans ea (Nat.le_max_left _ _)
  | join _ l1 _ e => exact Nat.mul_pos l1 (prds_pos e)
  | _ => exact Nat.le_refl _
section
variable {ε : Va}
structure KB (s : SS1) (W : Nat) : Prop where
  w : 100 ≤ W
  s1 : isS s.1 = true
  l1 : sl s.1 ≤ W
structure Kp (W L : Nat) (r : VV × SS1) : Prop where
  ok : OkV r.1
  len : sl r.1 ≤ W
  k : KB r.2 W
  log : r.2.2.length ≤ L
theorem asObj_ok (e : OkVa ε) {v1 : VV} {W : Nat} (h1 : isS v1 = true) (hW : 100 ≤ W) (hl : sl v1 ≤ W) {i : Nat} (hi : i < 8) : OkV (asObj ε v1 (i + 1)) ∧ sl (asObj ε v1 (i + 1)) ≤ W := by
  have w12 : 12 ≤ W := Nat.le_trans (by decide) hW
  have pr : ∀ {k i}, OkV (.prim k i) → OkV (.prim k i) ∧ sl (.prim k i) ≤ W := fun h => ⟨h, Nat.le_trans (sl_prim h) w12⟩
  refine lt8 (P := fun i => OkV (asObj ε v1 (i + 1)) ∧ sl (asObj ε v1 (i + 1)) ≤ W) hi ⟨isS_ok h1, hl⟩ ⟨e.v2.1, Nat.le_trans e.v2.2 w12⟩ (pr (.i7 e.n3)) (pr (.ch e.n4)) ?_ ⟨e.v6.1, Nat.le_trans e.v6.2 w12⟩ (pr (.i0 e.n7)) ⟨e.v8.1, Nat.le_trans e.v8.2 w12⟩
  exact ltS (P := fun n => OkV (.prim 1 (.ofNat n)) ∧ sl (.prim 1 (.ofNat n)) ≤ W) e.n5 (pr .b0) fun _ h => ltS (P := fun n => OkV (.prim 1 (.ofNat (n + 1))) ∧ sl (.prim 1 (.ofNat (n + 1))) ≤ W) h (pr .b1) fun _ h => lt0 (P := fun n => OkV (.prim 1 (.ofNat (n + 2))) ∧ sl (.prim 1 (.ofNat (n + 2))) ≤ W) h
theorem given_ok {o : Bool} {n : Nat} (h : n < 4) : OkV (given o n) ∧ sl (given o n) ≤ 12 ∧ (o = false → isS (given o n) = true) := by
  have h7 : OkV (.prim 7 40) := .i7 (smL 45 (by decide))
  refine lt4 (P := fun n => OkV (given o n) ∧ sl (given o n) ≤ 12 ∧ (o = false → isS (given o n) = true)) h ⟨.nul, Nat.zero_le _, fun _ => rfl⟩ ⟨.str, Nat.le_of_ble_eq_true (by kernel_rfl), fun _ => rfl⟩ ⟨.str, Nat.zero_le _, fun _ => rfl⟩ ?_
  cases o with
  | true => exact ⟨h7, sl_prim h7, fun q => nt q⟩
  | false => exact ⟨.str, Nat.le_of_ble_eq_true (by kernel_rfl), fun _ => rfl⟩
theorem glue_said (vs : List VV) : (glue (vs.map said)).length = (vs.map sl).sum := by
  rw [glue_len, ← lenSum_is, List.map_map]; rfl
theorem KB.mul {s : SS1} {W p : Nat} (k : KB s W) (h : 1 ≤ p) : KB s (p * W) := ⟨Nat.le_trans k.w (Nat.le_mul_of_pos_left _ h), k.s1, Nat.le_trans k.l1 (Nat.le_mul_of_pos_left _ h)⟩
abbrev Keep (ε : Va) (t : T) : Prop := ∀ (s : SS1) (W : Nat), KB s W → Kp (prd t * W) (s.2.length + eff t) (mean ε t s) ∧ (kdT t = 13 → isS (mean ε t s).1 = true)
theorem Kp.up {W W' L L' : Nat} {r : VV × SS1} (h : Kp W L r) (w : W ≤ W') (l : L ≤ L') : Kp W' L' r := ⟨h.ok, Nat.le_trans h.len w, ⟨Nat.le_trans h.k.w w, h.k.s1, Nat.le_trans h.k.l1 w⟩, Nat.le_trans h.log l⟩
theorem keeps_l : ∀ {l : List T}, (∀ t ∈ l, Keep ε t ∧ 1 ≤ prd t) → ∀ (s : SS1) (W : Nat), KB s W → ((means ε l s).1.map sl).sum ≤ l.length * (prds l * W) ∧ KB (means ε l s).2 (prds l * W) ∧ (means ε l s).2.2.length ≤ s.2.length + effs l
  | [], _, s, W, k => ⟨Nat.zero_le _, by rw [show prds [] = 1 from rfl, Nat.one_mul]; exact k, Nat.le_refl _⟩
  | t :: r, h, s, W, k => by
    obtain ⟨kt, pt⟩ := h t (.head _)
    have hr := fun x (m : x ∈ r) => h x (.tail _ m)
    have a := (kt s W k).1
    obtain ⟨i1, i2, i3⟩ := keeps_l hr _ _ a.k
    have eq : prds (t :: r) * W = prds r * (prd t * W) := by rw [prds, Nat.mul_comm (prd t), Nat.mul_assoc]
    rw [eq]
    refine ⟨?_, i2, Nat.le_trans i3 (Nat.le_trans (Nat.add_le_add_right a.log _) (Nat.le_of_eq (Nat.add_assoc _ _ _)))⟩
    show sl (mean ε t s).1 + ((means ε r (mean ε t s).2).1.map sl).sum ≤ (r.length + 1) * _
    rw [Nat.add_mul, Nat.one_mul, Nat.add_comm]
    exact Nat.add_le_add i1 (Nat.le_trans a.len (Nat.le_mul_of_pos_left _ (prds_pos fun x m => (hr x m).2)))
theorem keeps (e : OkVa ε) {n : Nat} {t : T} (h : OkS n t) : Keep ε t := by
  induction h with
  | txt h =>
    rename_i w
    intro s W k
    rw [show prd (.txt w) = 1 from rfl, Nat.one_mul]
    cases w with
    | none => exact ⟨⟨.nul, Nat.zero_le _, k, Nat.le_refl _⟩, fun _ => rfl⟩
    | some w => exact ⟨⟨.str, Nat.le_trans (h w rfl) k.w, k, Nat.le_refl _⟩, fun _ => rfl⟩
  | null => intro s W k; rw [show prd .null = 1 from rfl, Nat.one_mul]; exact ⟨⟨.nul, Nat.zero_le _, k, Nat.le_refl _⟩, fun _ => rfl⟩
  | num h =>
    rename_i i
    intro s W k
    rw [show prd (.num (.ofNat i - 1)) = 1 from rfl, Nat.one_mul]
    have o : OkV (.prim 7 (.ofNat i - 1)) := .i7 (lt3 (P := fun i => sm (.ofNat i - 1)) h (smL 4 (by decide)) (smL 5 (by decide)) (smL 6 (by decide)))
    exact ⟨⟨o, Nat.le_trans (sl_prim o) (Nat.le_trans (by decide) k.w), k, Nat.le_refl _⟩, fun h => nomatch h⟩
  | loc h =>
    rename_i i
    intro s W k
    rw [show prd (.loc (i + 1)) = 1 from rfl, Nat.one_mul]
    obtain ⟨a, b⟩ := asObj_ok e k.s1 k.w k.l1 h
    refine ⟨⟨a, b, k, Nat.le_refl _⟩, ?_⟩
    exact lt8 (P := fun i => kindN (i + 1) = 13 → isS (asObj ε s.1 (i + 1)) = true) h (fun _ => k.s1) (fun h => nomatch h) (fun h => nomatch h) (fun h => nomatch h) (fun h => nomatch h) (fun h => nomatch h) (fun h => nomatch h) fun h => nomatch h
  | set _ q ih =>
    intro s W k
    obtain ⟨r, x⟩ := ih s W k
    refine ⟨⟨r.ok, r.len, ⟨r.k.w, x q, r.len⟩, ?_⟩, fun _ => x q⟩
    show ((mean ε _ s).2.2 ++ [_]).length ≤ s.2.length + (eff _ + 1)
    rw [List.length_append]; exact Nat.succ_le_succ r.log
  | call h =>
    rename_i o
    intro s W k
    rw [show prd (.call o _) = 1 from rfl, Nat.one_mul]
    obtain ⟨a, b, c⟩ := given_ok (o := o) h
    refine ⟨⟨a, Nat.le_trans b (Nat.le_trans (by decide) k.w), ⟨k.w, k.s1, k.l1⟩, Nat.le_of_eq List.length_append⟩, fun h => c ?_⟩
    cases o with
    | true => exact nomatch h
    | false => rfl
  | cond hc oa qa ob qb ea eb =>
    rename_i c a b
    intro s W k
    show Kp (max (prd a) (prd b) * W) (s.2.length + max (eff a) (eff b)) (match tst ε c with | true => mean ε a s | false => mean ε b s) ∧ (_ → isS (match tst ε c with | true => mean ε a s | false => mean ε b s).1 = true)
    cases tst ε c with
    | true => exact ⟨(ea s W k).1.up (Nat.mul_le_mul_right _ (Nat.le_max_left _ _)) (Nat.add_le_add_left (Nat.le_max_left _ _) _), fun _ => (ea s W k).2 qa⟩
    | false => exact ⟨(eb s W k).1.up (Nat.mul_le_mul_right _ (Nat.le_max_right _ _)) (Nat.add_le_add_left (Nat.le_max_right _ _) _), fun _ => (eb s W k).2 qb⟩
  | deleg h =>
    rename_i i
    intro s W k
    rw [show prd (.deleg (dN i)) = 1 from rfl, Nat.one_mul]
    have o : OkV (.prim 0 (.ofNat (50 + dN i))) := .i0 (lt5 (P := fun i => sm (.ofNat (50 + dN i))) h (smL 55 (by decide)) (smL 57 (by decide)) (smL 58 (by decide)) (smL 61 (by decide)) (smL 62 (by decide)))
    exact ⟨⟨o, Nat.le_trans (sl_prim o) (Nat.le_trans (by decide) k.w), ⟨k.w, k.s1, k.l1⟩, Nat.le_of_eq List.length_append⟩, fun h => nomatch h⟩
  | join o l1 l4 ih =>
    rename_i l
    intro s W k
    obtain ⟨g1, g2, g3⟩ := keeps_l (fun t m => ⟨ih t m, prd_pos (o t m)⟩) s W k
    have le : prds l * W ≤ l.length * prds l * W := by rw [Nat.mul_assoc]; exact Nat.le_mul_of_pos_left _ l1
    refine ⟨⟨.str, ?_, ⟨Nat.le_trans g2.w le, g2.s1, Nat.le_trans g2.l1 le⟩, g3⟩, fun _ => rfl⟩
    show (glue ((means ε l s).1.map said)).length ≤ l.length * prds l * W
    rw [glue_said, Nat.mul_assoc]; exact g1
end
end Mine
end
noncomputable section
namespace Mine
open PySem PySem.W
noncomputable def PM (c0 c1 : Cell) (ε : Va) (s : SS1) : List Cell := PL c0 c1 ++ [.dct [.str sVars, .str sLog] [.cell 35, .cell 36], .dct vks (vds ε s.1), .lst s.2]
section
variable {w : World} {c0 c1 : Cell} {ε : Va}
theorem said_ok {v : VV} {pi : List Cell} (h : OkV v) : CF w 1 a_law_said [v.d] pi (.str (said v), pi) := by
  refine ofR ?_
  cases h with
  | ch h => exact sn (by kernel_rfl) (Nat.blt_eq.mpr h) (fn (by kernel_rfl))
  | i0 h => exact sn (by kernel_rfl) h.1 (fn (by kernel_rfl))
  | i7 h => exact sn (by kernel_rfl) h.1 (fn (by kernel_rfl))
  | _ => exact fn (by kernel_rfl)
theorem asObj_run (s : SS1) {i : Nat} (hi : i < 8) : CF w 1 a_law_as_object [.cell 34, nI (i + 1)] (PM c0 c1 ε s) ((asObj ε s.1 (i + 1)).d, PM c0 c1 ε s) :=
  lt8 (P := fun i => CF w 1 a_law_as_object [.cell 34, nI (i + 1)] (PM c0 c1 ε s) ((asObj ε s.1 (i + 1)).d, PM c0 c1 ε s)) hi (ca (by kernel_rfl)) (ca (by kernel_rfl)) (ca (by kernel_rfl)) (ca (by kernel_rfl)) (ca (by kernel_rfl)) (ca (by kernel_rfl)) (ca (by kernel_rfl)) (ca (by kernel_rfl))
theorem given_run {o : Bool} {n : Nat} {pi : List Cell} (h : n < 4) : CF w 1 a_law_given [nI (kO o), nI n] pi ((given o n).d, pi) :=
  lt4 (P := fun n => CF w 1 a_law_given [nI (kO o), nI n] pi ((given o n).d, pi)) h (by cases o <;> exact ca (by kernel_rfl)) (by cases o <;> exact ca (by kernel_rfl)) (by cases o <;> exact ca (by kernel_rfl)) (by cases o <;> exact ca (by kernel_rfl))
abbrev MCF (w : World) (c0 c1 : Cell) (ε : Va) (n : Nat) (t : T) (s : SS1) : Prop := CF w (n + 2) a_law_mean [.cell 34, enc t] (PM c0 c1 ε s) ((mean ε t s).1.d, PM c0 c1 ε (mean ε t s).2)
noncomputable def Chain (w : World) (c0 c1 : Cell) (ε : Va) (n : Nat) : List T → SS1 → Prop
  | [], _ => True
  | t :: r, s => (MCF w c0 c1 ε n t s ∧ CF w (n + 2) a_law_said [(mean ε t s).1.d] (PM c0 c1 ε (mean ε t s).2) (.str (said (mean ε t s).1), PM c0 c1 ε (mean ε t s).2)) ∧ Chain w c0 c1 ε n r (mean ε t s).2
structure MB (t : T) (s : SS1) (W : Nat) : Prop where
  k : KB s W
  p : prd t * W ≤ 16000000
  l : s.2.length + eff t ≤ 16000000
theorem nlog {s : SS1} (h : s.2.length + 1 ≤ 16000000) : chk (s.2.length + 1) = true := Nat.ble_eq.mpr (Nat.le_trans h (by decide))
theorem chain_of (e : OkVa ε) {n : Nat} : ∀ {l : List T}, (∀ t ∈ l, OkS n t ∧ ∀ s W, MB t s W → MCF w c0 c1 ε n t s) → ∀ (s : SS1) (W : Nat), KB s W → prds l * W ≤ 16000000 → s.2.length + effs l ≤ 16000000 → Chain w c0 c1 ε n l s
  | [], _, _, _, _, _, _ => trivial
  | t :: r, h, s, W, k, hp, hl => by
    obtain ⟨o, f⟩ := h t (.head _)
    have pt := prd_pos o
    have hr := fun x (m : x ∈ r) => h x (.tail _ m)
    have eq : prds (t :: r) * W = prds r * (prd t * W) := by rw [prds, Nat.mul_comm (prd t), Nat.mul_assoc]
    rw [eq] at hp
    have a := (keeps e o s W k).1
    have hl : s.2.length + (eff t + effs r) ≤ 16000000 := hl
    rw [← Nat.add_assoc] at hl
    exact ⟨⟨f s W ⟨k, Nat.le_trans (Nat.le_mul_of_pos_left _ (prds_pos fun x m => prd_pos (hr x m).1)) hp, Nat.le_trans (Nat.le_add_right _ _) hl⟩, up (said_ok a.ok) (Nat.le_add_left _ _)⟩, chain_of e hr _ _ a.k hp (Nat.le_trans (Nat.add_le_add_right a.log _) hl)⟩
theorem mean_ok (e : OkVa ε) {n : Nat} {t : T} (h : OkS n t) : ∀ s W, MB t s W → MCF w c0 c1 ε n t s := by
  induction h with
  | txt => rename_i w _; intro s W b; cases w <;> exact ofR (fn (by kernel_rfl))
  | null => intro s W b; exact ofR (fn (by kernel_rfl))
  | num => intro s W b; exact ofR (fn (by kernel_rfl))
  | loc h => rename_i n i; intro s W b; exact ofR (st (by kernel_rfl) (up (asObj_run (w := w) (c0 := c0) (c1 := c1) (ε := ε) s h) (Nat.le_add_left 1 n)) (fn (by kernel_rfl)))
  | set o q ih =>
    rename_i n t
    intro s W b
    have hl : s.2.length + (eff t + 1) ≤ 16000000 := b.l
    have r := ih s W ⟨b.k, b.p, Nat.le_trans (Nat.add_le_add_left (Nat.le_succ _) _) hl⟩
    have k := (keeps e o s W b.k).1.log
    exact ofR (st (by kernel_rfl) r (sn (by kernel_rfl) (nlog (Nat.le_trans (Nat.succ_le_succ k) hl)) (fn (by kernel_rfl))))
  | call h => rename_i n k o; intro s W b; exact ofR (sn (by kernel_rfl) (nlog b.l) (st (by kernel_rfl) (up (given_run (w := w) (o := o) (pi := PM c0 c1 ε (s.1, s.2 ++ [.tup [.str sCall, nI (kO o), nI k]])) h) (Nat.le_add_left 1 n)) (fn (by kernel_rfl))))
  | cond hc oa qa ob qb ea eb =>
    rename_i n c a b
    intro s W m
    have ea := ea s W ⟨m.k, Nat.le_trans (Nat.mul_le_mul_right _ (Nat.le_max_left _ _)) m.p, Nat.le_trans (Nat.add_le_add_left (Nat.le_max_left _ _) _) m.l⟩
    have eb := eb s W ⟨m.k, Nat.le_trans (Nat.mul_le_mul_right _ (Nat.le_max_right _ _)) m.p, Nat.le_trans (Nat.add_le_add_left (Nat.le_max_right _ _) _) m.l⟩
    refine lt3 (P := fun c => MCF w c0 c1 ε (n + 1) (.cond c a b) s) hc (ofR (st (by kernel_rfl) eb (fn (by kernel_rfl)))) (ofR (st (by kernel_rfl) ea (fn (by kernel_rfl)))) ?_
    obtain ⟨v2, n3, n4, n5, v6, n7, v8⟩ := ε
    have h5 : n5 < 2 := e.n5
    clear e m
    cases n5 with
    | zero => exact ofR (st (by kernel_rfl) eb (fn (by kernel_rfl)))
    | succ n5 => exact ofR (st (by kernel_rfl) ea (fn (by kernel_rfl)))
  | deleg h =>
    rename_i n i
    intro s W b
    have hl : chk (s.2.length + 1) = true := nlog b.l
    have ao : ∀ {i : Nat}, i < 8 → CF w (n + 1) a_law_as_object [.cell 34, nI (i + 1)] (PM c0 c1 ε s) ((asObj ε s.1 (i + 1)).d, PM c0 c1 ε s) := fun h => up (asObj_run s h) (Nat.le_add_left 1 n)
    exact lt5 (P := fun i => MCF w c0 c1 ε n (.deleg (dN i)) s) h (ofR (sn (by kernel_rfl) hl (fn (by kernel_rfl)))) (ofR (st (by kernel_rfl) (ao (i := 1) (by decide)) (sn (by kernel_rfl) hl (fn (by kernel_rfl)))))
      (ofR (st (by kernel_rfl) (ao (i := 2) (by decide)) (sn (by kernel_rfl) hl (fn (by kernel_rfl))))) (ofR (st (by kernel_rfl) (ao (i := 5) (by decide)) (sn (by kernel_rfl) hl (fn (by kernel_rfl))))) (ofR (st (by kernel_rfl) (ao (i := 6) (by decide)) (sn (by kernel_rfl) hl (fn (by kernel_rfl)))))
  | join o l1 l4 ih =>
    rename_i n l
    intro s W b
    have ch := chain_of (w := w) (c0 := c0) (c1 := c1) e (fun t m => ⟨o t m, ih t m⟩) s W b.k (Nat.le_trans (by rw [prd, Nat.mul_assoc]; exact Nat.le_mul_of_pos_left _ l1) b.p) b.l
    have hz : chk (lenSum ((means ε l s).1.map said)) = true := by
      have := (keeps e (.join o l1 l4 : OkS (n + 1) (.join l)) s W b.k).1.len
      rw [show sl (mean ε (.join l) s).1 = (glue ((means ε l s).1.map said)).length from rfl, glue_len] at this
      exact Nat.ble_eq.mpr (Nat.le_trans this (Nat.le_trans b.p (by decide)))
    clear b ih o
    revert ch hz
    refine pieces (P := fun l => Chain w c0 c1 ε n l s → chk (lenSum ((means ε l s).1.map said)) = true → MCF w c0 c1 ε (n + 1) (.join l) s) l1 l4 ?_ ?_ ?_ ?_
    · intro a ⟨⟨a1, a2⟩, _⟩ hz
      exact ofR (st (by kernel_rfl) a1 (st (by kernel_rfl) a2 (sn (by kernel_rfl) hz (fn (by kernel_rfl)))))
    · intro a b ⟨⟨a1, a2⟩, ⟨b1, b2⟩, _⟩ hz
      exact ofR (st (by kernel_rfl) a1 (st (by kernel_rfl) a2 (st (by kernel_rfl) b1 (st (by kernel_rfl) b2 (sn (by kernel_rfl) hz (fn (by kernel_rfl)))))))
    · intro a b c ⟨⟨a1, a2⟩, ⟨b1, b2⟩, ⟨d1, d2⟩, _⟩ hz
      exact ofR (st (by kernel_rfl) a1 (st (by kernel_rfl) a2 (st (by kernel_rfl) b1 (st (by kernel_rfl) b2 (st (by kernel_rfl) d1 (st (by kernel_rfl) d2 (sn (by kernel_rfl) hz (fn (by kernel_rfl)))))))))
    · intro a b c d ⟨⟨a1, a2⟩, ⟨b1, b2⟩, ⟨d1, d2⟩, ⟨f1, f2⟩, _⟩ hz
      exact ofR (st (by kernel_rfl) a1 (st (by kernel_rfl) a2 (st (by kernel_rfl) b1 (st (by kernel_rfl) b2 (st (by kernel_rfl) d1 (st (by kernel_rfl) d2 (st (by kernel_rfl) f1 (st (by kernel_rfl) f2 (sn (by kernel_rfl) hz (fn (by kernel_rfl)))))))))))
end
end Mine
end
noncomputable section
namespace Mine
open PySem PySem.W
abbrev BQ := Bu true true false
noncomputable def PR (c0 c1 c2 c3 : Cell) (ε : Va) (s : SS1) : List Cell := PL c0 c1 ++ [.dct [.str sVars, .str sLog] [.cell 35, .cell 36], c2, c3, .dct [.str sVars, .str sLog, .str sWrong, .str sAction] [.cell 38, .cell 39, .bool false, nI 16], .dct vks (vds ε s.1), .lst s.2]
structure Rc where
  w : World
  c0 : Cell
  c1 : Cell
  c2 : Cell
  c3 : Cell
  ε : Va
abbrev RunsTo (Z : Rc) (m : Nat) (x : D) (s : SS1) (v : D) (s' : SS1) : Prop := CF Z.w m a_law_run [.cell 37, x] (PR Z.c0 Z.c1 Z.c2 Z.c3 Z.ε s) (v, PR Z.c0 Z.c1 Z.c2 Z.c3 Z.ε s')
inductive PS : Nat → D → Prop
  | s {o : Nat} {r : List D} : o ≠ 19 → PS 13 (.tup (nI o :: nI 13 :: r))
  | o {o : Nat} {r : List D} : o ≠ 19 → PS 12 (.tup (nI o :: nI 12 :: r))
  | f {o : Nat} {r : List D} : o ≠ 19 → PS 16 (.tup (nI o :: nI 16 :: r))
  | bx {y : D} : PS 12 (.tup [nI 19, nI 12, y, nI 4, nI 0])
inductive OS : Bool → D → Prop
  | rf {o : D} {r : List D} : OS true (.tup [nI 19, nI 12, .tup (o :: nI 13 :: r), nI 2, nI 0])
  | o {o : Nat} {r : List D} : o ≠ 19 → OS false (.tup (nI o :: nI 12 :: r))
  | f {o : Nat} {r : List D} : o ≠ 19 → OS false (.tup (nI o :: nI 16 :: r))
  | bx {y : D} : OS false (.tup [nI 19, nI 12, y, nI 4, nI 0])
theorem n19 {o : Nat} (h : o ≠ 19) : decide (Int.ofNat o = Int.ofNat 19) = false := decide_eq_false fun e => h (Int.ofNat.inj e)
section
variable {Z : Rc} {m : Nat} {s s' s1 s2 : SS1} {v1 v2 : VV} {x y v : D}
theorem run_cat (hm : 1 ≤ m) (hx : PS 13 x) (hy : PS 13 y) (h1 : RunsTo Z m x s v1.d s1) (h2 : RunsTo Z m y s1 v2.d s2) (o1 : OkV v1) (o2 : OkV v2) (hl : chk (said v1 ++ said v2).length = true) : RunsTo Z (m + 1) (jnD 10 x y) s (.str (said v1 ++ said v2)) s2 := by
  have a1 := up (said_ok (w := Z.w) (pi := PR Z.c0 Z.c1 Z.c2 Z.c3 Z.ε s2) o1) hm
  have a2 := up (said_ok (w := Z.w) (pi := PR Z.c0 Z.c1 Z.c2 Z.c3 Z.ε s2) o2) hm
  cases hx with | s n1 =>
  cases hy with | s n2 =>
  exact ofRuns (u := true) (tt := true) (pm := false) (sA 7 (sb false (by kernel_rfl) (n19 n1) (sb false (by kernel_rfl) (n19 n2) (st (by kernel_rfl) h1 (st (by kernel_rfl) h2 (sA 40 (st (by kernel_rfl) a1 (st (by kernel_rfl) a2 (sn (by kernel_rfl) hl (fn (by kernel_rfl)))))))))))
theorem run_ob (hm : 1 ≤ m) {a b : Bool} (hx : OS a x) (hy : OS b y) (hab : (a && b) = false) (h1 : RunsTo Z m x s v1.d s1) (h2 : RunsTo Z m y s1 v2.d s2) (o1 : OkV v1) (o2 : OkV v2) (hl : chk (said v1 ++ said v2).length = true) : RunsTo Z (m + 1) (jnD 20 x y) s (.str (said v1 ++ said v2)) s2 := by
  have a1 := up (said_ok (w := Z.w) (pi := PR Z.c0 Z.c1 Z.c2 Z.c3 Z.ε s2) o1) hm
  have a2 := up (said_ok (w := Z.w) (pi := PR Z.c0 Z.c1 Z.c2 Z.c3 Z.ε s2) o2) hm
  cases hx with
  | rf => cases hy with
    | rf => exact nt hab
    | o n2 => exact ofRuns (u := true) (tt := true) (pm := false) (sA 9 (sb false (by kernel_rfl) (n19 n2) (st (by kernel_rfl) h1 (st (by kernel_rfl) h2 (sA 40 (st (by kernel_rfl) a1 (st (by kernel_rfl) a2 (sn (by kernel_rfl) hl (fn (by kernel_rfl))))))))))
    | f n2 => exact ofRuns (u := true) (tt := true) (pm := false) (sA 9 (sb false (by kernel_rfl) (n19 n2) (st (by kernel_rfl) h1 (st (by kernel_rfl) h2 (sA 40 (st (by kernel_rfl) a1 (st (by kernel_rfl) a2 (sn (by kernel_rfl) hl (fn (by kernel_rfl))))))))))
    | bx => exact ofR (st (by kernel_rfl) h1 (st (by kernel_rfl) h2 (st (by kernel_rfl) a1 (st (by kernel_rfl) a2 (sn (by kernel_rfl) hl (fn (by kernel_rfl)))))))
  | bx => cases hy with
    | o n2 => exact ofRuns (u := true) (tt := true) (pm := false) (sA 9 (sb false (by kernel_rfl) (n19 n2) (st (by kernel_rfl) h1 (st (by kernel_rfl) h2 (sA 40 (st (by kernel_rfl) a1 (st (by kernel_rfl) a2 (sn (by kernel_rfl) hl (fn (by kernel_rfl))))))))))
    | f n2 => exact ofRuns (u := true) (tt := true) (pm := false) (sA 9 (sb false (by kernel_rfl) (n19 n2) (st (by kernel_rfl) h1 (st (by kernel_rfl) h2 (sA 40 (st (by kernel_rfl) a1 (st (by kernel_rfl) a2 (sn (by kernel_rfl) hl (fn (by kernel_rfl))))))))))
    | _ => exact ofR (st (by kernel_rfl) h1 (st (by kernel_rfl) h2 (st (by kernel_rfl) a1 (st (by kernel_rfl) a2 (sn (by kernel_rfl) hl (fn (by kernel_rfl)))))))
  | o n1 => cases hy with
    | o n2 => exact ofRuns (u := true) (tt := true) (pm := false) (sA 7 (sb false (by kernel_rfl) (n19 n1) (sb false (by kernel_rfl) (n19 n2) (st (by kernel_rfl) h1 (st (by kernel_rfl) h2 (sA 40 (st (by kernel_rfl) a1 (st (by kernel_rfl) a2 (sn (by kernel_rfl) hl (fn (by kernel_rfl)))))))))))
    | f n2 => exact ofRuns (u := true) (tt := true) (pm := false) (sA 7 (sb false (by kernel_rfl) (n19 n1) (sb false (by kernel_rfl) (n19 n2) (st (by kernel_rfl) h1 (st (by kernel_rfl) h2 (sA 40 (st (by kernel_rfl) a1 (st (by kernel_rfl) a2 (sn (by kernel_rfl) hl (fn (by kernel_rfl)))))))))))
    | _ => exact ofRuns (u := true) (tt := true) (pm := false) (sA 7 (sb false (by kernel_rfl) (n19 n1) (sA 2 (st (by kernel_rfl) h1 (st (by kernel_rfl) h2 (sA 40 (st (by kernel_rfl) a1 (st (by kernel_rfl) a2 (sn (by kernel_rfl) hl (fn (by kernel_rfl)))))))))))
  | f n1 => cases hy with
    | o n2 => exact ofRuns (u := true) (tt := true) (pm := false) (sA 7 (sb false (by kernel_rfl) (n19 n1) (sb false (by kernel_rfl) (n19 n2) (st (by kernel_rfl) h1 (st (by kernel_rfl) h2 (sA 40 (st (by kernel_rfl) a1 (st (by kernel_rfl) a2 (sn (by kernel_rfl) hl (fn (by kernel_rfl)))))))))))
    | f n2 => exact ofRuns (u := true) (tt := true) (pm := false) (sA 7 (sb false (by kernel_rfl) (n19 n1) (sb false (by kernel_rfl) (n19 n2) (st (by kernel_rfl) h1 (st (by kernel_rfl) h2 (sA 40 (st (by kernel_rfl) a1 (st (by kernel_rfl) a2 (sn (by kernel_rfl) hl (fn (by kernel_rfl)))))))))))
    | _ => exact ofRuns (u := true) (tt := true) (pm := false) (sA 7 (sb false (by kernel_rfl) (n19 n1) (sA 2 (st (by kernel_rfl) h1 (st (by kernel_rfl) h2 (sA 40 (st (by kernel_rfl) a1 (st (by kernel_rfl) a2 (sn (by kernel_rfl) hl (fn (by kernel_rfl)))))))))))
theorem as_ob {k : Nat} (h : PS k x) (q : RunsTo Z m x s v s') : OS (Nat.beq k 13) (asO k x) ∧ RunsTo Z (m + 1) (asO k x) s v s' := by
  cases h with
  | s => exact ⟨.rf, ofR (st (by kernel_rfl) q (fn (by kernel_rfl)))⟩
  | o n => exact ⟨.o n, up q (Nat.le_succ _)⟩
  | f n => exact ⟨.f n, up q (Nat.le_succ _)⟩
  | bx => exact ⟨.bx, up q (Nat.le_succ _)⟩
theorem run_join {k1 k2 : Nat} (hm : 1 ≤ m) (hx : PS k1 x) (hy : PS k2 y) (h1 : RunsTo Z m x s v1.d s1) (h2 : RunsTo Z m y s1 v2.d s2) (o1 : OkV v1) (o2 : OkV v2) (hl : chk (said v1 ++ said v2).length = true) : RunsTo Z (m + 2) (joinE k1 x k2 y) s (.str (said v1 ++ said v2)) s2 := by
  unfold joinE
  cases q : Nat.beq k1 13 && Nat.beq k2 13 with
  | true =>
    obtain ⟨q1, q2⟩ := Bool.and_eq_true_iff.mp q
    rw [Nat.eq_of_beq_eq_true q1] at hx
    rw [Nat.eq_of_beq_eq_true q2] at hy
    exact up (run_cat hm hx hy h1 h2 o1 o2 hl) (Nat.le_succ _)
  | false =>
    obtain ⟨a, a'⟩ := as_ob hx h1
    obtain ⟨b, b'⟩ := as_ob hy h2
    exact run_ob (Nat.le_trans hm (Nat.le_succ _)) a b q a' b' o1 o2 hl
end
end Mine
end
noncomputable section
namespace Mine
open PySem PySem.W
theorem str_nil (a : Str) : a ++ s0 = a := by
  show (⟨a.cps ++ #[]⟩ : Str) = a
  rw [Array.append_empty]
theorem nil_str (a : Str) : s0 ++ a = a := by
  show (⟨#[] ++ a.cps⟩ : Str) = a
  rw [Array.empty_append]
theorem str_assoc (a b c : Str) : (a ++ b) ++ c = a ++ (b ++ c) := congrArg Str.mk Array.append_assoc
theorem glue_cons (a : Str) (l : List Str) : glue (a :: l) = a ++ glue l := by
  cases l with
  | nil => exact (str_nil a).symm
  | cons b l => rfl
noncomputable def primD (v : VV) : D := match v with
  | .prim _ i => .int i
  | v => v.d
noncomputable def raw (k : Nat) (v : VV) : D := match hasK (Nat.beq k) [7, 2, 1] with
  | true => primD v
  | false => v.d
theorem kl9 {P : Nat → Prop} {k : Nat} (h : k ∈ kl) (p0 : P 13) (p1 : P 12) (p2 : P 7) (p3 : P 2) (p4 : P 1) (p5 : P 16) (p6 : P 17) (p7 : P 18) (p8 : P 19) : P k := by
  cases h with
  | head => exact p0
  | tail _ h => cases h with
    | head => exact p1
    | tail _ h => cases h with
      | head => exact p2
      | tail _ h => cases h with
        | head => exact p3
        | tail _ h => cases h with
          | head => exact p4
          | tail _ h => cases h with
            | head => exact p5
            | tail _ h => cases h with
              | head => exact p6
              | tail _ h => cases h with
                | head => exact p7
                | tail _ h => cases h with
                  | head => exact p8
                  | tail _ h => cases h
section
variable {Z : Rc} {m n : Nat} {s s' s1 s2 : SS1} {v1 v2 : VV} {x y : D}
theorem mean_prim {ε : Va} {t : T} (h : OkS n t) (s : SS1) : hasK (Nat.beq (kdT t)) [7, 2, 1] = true → ∃ i, (mean ε t s).1 = .prim (kdT t) i := by
  cases h with
  | num => exact fun _ => ⟨_, rfl⟩
  | loc h => exact lt8 (P := fun i => hasK (Nat.beq (kindN (i + 1))) [7, 2, 1] = true → ∃ j, asObj ε s.1 (i + 1) = .prim (kindN (i + 1)) j) h (fun h => nf h) (fun h => nf h) (fun _ => ⟨_, rfl⟩) (fun _ => ⟨_, rfl⟩) (fun _ => ⟨_, rfl⟩) (fun h => nf h) (fun h => nf h) (fun h => nf h)
  | call => rename_i o _; exact fun h => by cases o <;> exact nf h
  | _ => exact fun h => nf h
theorem run_box {k : Nat} {v : VV} (hk : k ∈ kl) (sh : Shape k x) (hv : hasK (Nat.beq k) [7, 2, 1] = true → ∃ i, v = .prim k i) (h : RunsTo Z m x s (raw k v) s') : RunsTo Z (m + 1) (boxE k x) s v.d s' := by
  obtain ⟨o, r, rfl⟩ := sh
  refine kl9 (P := fun k => (hasK (Nat.beq k) [7, 2, 1] = true → ∃ i, v = .prim k i) → RunsTo Z m (.tup (o :: nI k :: r)) s (raw k v) s' → RunsTo Z (m + 1) (boxE k (.tup (o :: nI k :: r))) s v.d s') hk ?_ ?_ ?_ ?_ ?_ ?_ ?_ ?_ ?_ hv h
  · exact fun _ h => up h (Nat.le_succ _)
  · exact fun _ h => up h (Nat.le_succ _)
  · exact fun hv h => by obtain ⟨i, rfl⟩ := hv rfl; exact ofR (st (by kernel_rfl) h (fn (by kernel_rfl)))
  · exact fun hv h => by obtain ⟨i, rfl⟩ := hv rfl; exact ofR (st (by kernel_rfl) h (fn (by kernel_rfl)))
  · exact fun hv h => by obtain ⟨i, rfl⟩ := hv rfl; exact ofR (st (by kernel_rfl) h (fn (by kernel_rfl)))
  · exact fun _ h => up h (Nat.le_succ _)
  · exact fun _ h => ofR (st (by kernel_rfl) h (fn (by kernel_rfl)))
  · exact fun _ h => ofR (st (by kernel_rfl) h (fn (by kernel_rfl)))
  · exact fun _ h => ofR (st (by kernel_rfl) h (fn (by kernel_rfl)))
theorem joinE_ps (k1 : Nat) (x : D) (k2 : Nat) (y : D) : PS 13 (joinE k1 x k2 y) := by
  unfold joinE
  cases Nat.beq k1 13 && Nat.beq k2 13 <;> exact .s (o := 8) (by decide)
theorem joinR_ps : ∀ (l : List (Nat × D)) {x : D}, PS 13 x → PS 13 (joinR x l)
  | [], _, h => h
  | p :: r, x, _ => joinR_ps r (joinE_ps 13 x p.1 p.2)
theorem joinL_ps {l : List T} (h : 1 ≤ l.length) : PS 13 (joinL (lowP l)) := by
  cases l with
  | nil => exact absurd h (Nat.not_succ_le_zero _)
  | cons t r => cases r with
    | nil => exact joinE_ps _ _ _ _
    | cons u r => exact joinR_ps _ (joinE_ps _ _ _ _)
theorem box_ps {t : T} (h : OkS n t) : PS (bk (kdT t)) (boxE (kdT t) (lowD t)) := by
  cases h with
  | txt => exact .s (o := 1) (by decide)
  | null => exact .o (o := 1) (by decide)
  | num => exact .bx
  | loc h => exact lt8 (P := fun i => PS (bk (kindN (i + 1))) (boxE (kindN (i + 1)) (locD (i + 1)))) h (.s (o := 2) (by decide)) (.o (o := 2) (by decide)) .bx .bx .bx .bx .bx .bx
  | set => exact .s (o := 22) (by decide)
  | call =>
    rename_i o _
    cases o with
    | true => exact .o (o := 8) (by decide)
    | false => exact .s (o := 8) (by decide)
  | cond => exact .s (o := 17) (by decide)
  | deleg => exact .f (o := 36) (by decide)
  | join _ l1 _ => exact joinL_ps l1
noncomputable def RCh (Z : Rc) (m : Nat) : List T → SS1 → Prop
  | [], _ => True
  | t :: r, s => (PS (bk (kdT t)) (boxE (kdT t) (lowD t)) ∧ OkV (mean Z.ε t s).1 ∧ RunsTo Z m (boxE (kdT t) (lowD t)) s (mean Z.ε t s).1.d (mean Z.ε t s).2) ∧ RCh Z m r (mean Z.ε t s).2
theorem chk_of {a b : Nat} (h : a ≤ b) (hb : b ≤ 16777216) : chk a = true := Nat.ble_eq.mpr (Nat.le_trans h hb)
theorem run_joinR (hm : 1 ≤ m) : ∀ (l : List T) (k : Nat) {x : D} {a : Str} {s s1 : SS1}, PS 13 x → RunsTo Z (m + k) x s (.str a) s1 → RCh Z m l s1 → a.length + lenSum ((means Z.ε l s1).1.map said) ≤ 16777216 →
    RunsTo Z (m + (k + 2 * l.length)) (joinR x (lowP l)) s (.str (a ++ glue ((means Z.ε l s1).1.map said))) (means Z.ε l s1).2
  | [], k, x, a, s, s1, _, h, _, _ => by
    show RunsTo Z (m + k) x s (.str (a ++ s0)) s1
    rw [str_nil]; exact h
  | t :: r, k, x, a, s, s1, hx, h, ⟨⟨hy, ov, h2⟩, hc⟩, hl => by
    have hl : a.length + ((said (mean Z.ε t s1).1).length + lenSum ((means Z.ε r (mean Z.ε t s1).2).1.map said)) ≤ 16777216 := hl
    rw [← Nat.add_assoc, ← str_len] at hl
    have j := run_join (v1 := .str a) (v2 := (mean Z.ε t s1).1) (Nat.le_trans hm (Nat.le_add_right m k)) hx hy h (up h2 (Nat.le_add_right m k)) .str ov (chk_of (Nat.le_add_right _ _) hl)
    have := run_joinR hm r (k + 2) (joinE_ps 13 x (bk (kdT t)) (boxE (kdT t) (lowD t))) j hc hl
    rw [show (means Z.ε (t :: r) s1).1.map said = said (mean Z.ε t s1).1 :: (means Z.ε r (mean Z.ε t s1).2).1.map said from rfl, glue_cons, ← str_assoc, List.length_cons, Nat.mul_succ, Nat.add_comm (2 * r.length), ← Nat.add_assoc k]
    exact this
theorem run_joinL (hm : 1 ≤ m) {l : List T} {s : SS1} (l1 : 1 ≤ l.length) (h : RCh Z m l s) (hl : lenSum ((means Z.ε l s).1.map said) ≤ 16777216) : RunsTo Z (m + (2 + 2 * l.length)) (joinL (lowP l)) s (.str (glue ((means Z.ε l s).1.map said))) (means Z.ε l s).2 := by
  cases l with
  | nil => exact absurd l1 (Nat.not_succ_le_zero _)
  | cons t r =>
    obtain ⟨⟨hx, ov, h1⟩, hc⟩ := h
    cases r with
    | nil =>
      have e : RunsTo Z m emptyE (mean Z.ε t s).2 (.str s0) (mean Z.ε t s).2 := up (ca (m := 1) (by kernel_rfl)) hm
      have j := run_join (v1 := (mean Z.ε t s).1) (v2 := .str s0) hm hx (.s (o := 1) (by decide) : PS 13 emptyE) h1 e ov .str (chk_of (by rw [show said (.str s0) = s0 from rfl, str_nil]; exact Nat.le_add_right _ _) hl)
      rw [show said (.str s0) = s0 from rfl, str_nil] at j
      exact up j (Nat.add_le_add_left (Nat.le_add_right _ _) _)
    | cons u r =>
      obtain ⟨⟨hy, ow, h2⟩, hc⟩ := hc
      have hl : (said (mean Z.ε t s).1).length + ((said (mean Z.ε u (mean Z.ε t s).2).1).length + lenSum ((means Z.ε r (mean Z.ε u (mean Z.ε t s).2).2).1.map said)) ≤ 16777216 := hl
      rw [← Nat.add_assoc, ← str_len] at hl
      have j := run_join (v1 := (mean Z.ε t s).1) (v2 := (mean Z.ε u (mean Z.ε t s).2).1) hm hx hy h1 h2 ov ow (chk_of (Nat.le_add_right _ _) hl)
      have := run_joinR hm r 2 (joinE_ps (bk (kdT t)) (boxE (kdT t) (lowD t)) (bk (kdT u)) (boxE (kdT u) (lowD u))) j hc hl
      rw [show (means Z.ε (t :: u :: r) s).1.map said = said (mean Z.ε t s).1 :: said (mean Z.ε u (mean Z.ε t s).2).1 :: (means Z.ε r (mean Z.ε u (mean Z.ε t s).2).2).1.map said from rfl, glue_cons, glue_cons, ← str_assoc]
      exact up this (Nat.add_le_add_left (Nat.add_le_add_left (Nat.mul_le_mul_left 2 (Nat.le_trans (Nat.le_succ _) (Nat.le_succ _))) 2) m)
theorem run_loc {i : Nat} (hi : i < 8) : RunsTo Z 1 (locD (i + 1)) s (raw (kindN (i + 1)) (asObj Z.ε s.1 (i + 1))) s :=
  lt8 (P := fun i => RunsTo Z 1 (locD (i + 1)) s (raw (kindN (i + 1)) (asObj Z.ε s.1 (i + 1))) s) hi (ca (by kernel_rfl)) (ca (by kernel_rfl)) (ca (by kernel_rfl)) (ca (by kernel_rfl)) (ca (by kernel_rfl)) (ca (by kernel_rfl)) (ca (by kernel_rfl)) (ca (by kernel_rfl))
noncomputable def rl : Nat → Nat
  | 0 => 3
  | n + 1 => rl n + 11
theorem rl3 : ∀ n, 3 ≤ rl n
  | 0 => Nat.le_refl _
  | n + 1 => Nat.le_trans (rl3 n) (Nat.le_add_right _ _)
abbrev RCF (Z : Rc) (n : Nat) (t : T) (s : SS1) : Prop := RunsTo Z (rl n) (lowD t) s (raw (kdT t) (mean Z.ε t s).1) (mean Z.ε t s).2
theorem rch_of (e : OkVa Z.ε) : ∀ {l : List T}, (∀ t ∈ l, OkS n t ∧ ∀ s W, MB t s W → RCF Z n t s) → ∀ (s : SS1) (W : Nat), KB s W → prds l * W ≤ 16000000 → s.2.length + effs l ≤ 16000000 → RCh Z (rl n + 1) l s
  | [], _, _, _, _, _, _ => trivial
  | t :: r, h, s, W, k, hp, hl => by
    obtain ⟨o, f⟩ := h t (.head _)
    have pt := prd_pos o
    have hr := fun x (m : x ∈ r) => h x (.tail _ m)
    have eq : prds (t :: r) * W = prds r * (prd t * W) := by rw [prds, Nat.mul_comm (prd t), Nat.mul_assoc]
    rw [eq] at hp
    have a := (keeps e o s W k).1
    have hl : s.2.length + (eff t + effs r) ≤ 16000000 := hl
    rw [← Nat.add_assoc] at hl
    have q := f s W ⟨k, Nat.le_trans (Nat.le_mul_of_pos_left _ (prds_pos fun x m => prd_pos (hr x m).1)) hp, Nat.le_trans (Nat.le_add_right _ _) hl⟩
    exact ⟨⟨box_ps o, a.ok, run_box (kd_in o) (lowD_shape o) (mean_prim o s) q⟩, rch_of e hr _ _ a.k hp (Nat.le_trans (Nat.add_le_add_right a.log _) hl)⟩
theorem run_ok (e : OkVa Z.ε) {t : T} (h : OkS n t) : ∀ s W, MB t s W → RCF Z n t s := by
  induction h with
  | txt => rename_i n w _; intro s W b; exact up (by cases w <;> exact ca (m := 1) (by kernel_rfl)) (Nat.le_trans (by decide) (rl3 n))
  | null => rename_i n; intro s W b; exact up (ca (m := 1) (by kernel_rfl)) (Nat.le_trans (by decide) (rl3 n))
  | num => rename_i n _ _; intro s W b; exact up (ca (m := 1) (by kernel_rfl)) (Nat.le_trans (by decide) (rl3 n))
  | loc h => rename_i n _; intro s W b; exact up (run_loc h) (Nat.le_trans (by decide) (rl3 n))
  | set o q ih =>
    rename_i n t
    intro s W b
    have hl : s.2.length + (eff t + 1) ≤ 16000000 := b.l
    have r := ih s W ⟨b.k, b.p, Nat.le_trans (Nat.add_le_add_left (Nat.le_succ _) _) hl⟩
    have k := (keeps e o s W b.k).1.log
    unfold RCF at r
    rw [q] at r
    exact ofR (m := rl n + 10) (st (by kernel_rfl) (up r (Nat.le_add_right _ _)) (sn (by kernel_rfl) (nlog (Nat.le_trans (Nat.succ_le_succ k) hl)) (fn (by kernel_rfl))))
  | call h =>
    rename_i n k o
    intro s W b
    have hl : chk (s.2.length + 1) = true := nlog b.l
    have gr : ∀ {k}, k < 4 → CF Z.w 2 a_law_given [nI (kO o), nI k] (PR Z.c0 Z.c1 Z.c2 Z.c3 Z.ε (s.1, s.2 ++ [.tup [.str sCall, nI (kO o), nI k]])) ((given o k).d, PR Z.c0 Z.c1 Z.c2 Z.c3 Z.ε (s.1, s.2 ++ [.tup [.str sCall, nI (kO o), nI k]])) := fun h => up (given_run h) (by decide)
    refine up (m := 3) ?_ (rl3 n)
    cases o <;> exact lt4 (P := fun k => RunsTo Z 3 (lowD (.call _ k)) s (raw (kdT (.call _ k)) (mean Z.ε (.call _ k) s).1) (mean Z.ε (.call _ k) s).2) h (ofR (sn (by kernel_rfl) hl (st (by kernel_rfl) (gr (k := 0) (by decide)) (fn (by kernel_rfl))))) (ofR (sn (by kernel_rfl) hl (st (by kernel_rfl) (gr (k := 1) (by decide)) (fn (by kernel_rfl)))))
      (ofR (sn (by kernel_rfl) hl (st (by kernel_rfl) (gr (k := 2) (by decide)) (fn (by kernel_rfl))))) (ofR (sn (by kernel_rfl) hl (st (by kernel_rfl) (gr (k := 3) (by decide)) (fn (by kernel_rfl)))))
  | cond hc oa qa ob qb ea eb =>
    rename_i n c a b
    intro s W m
    have ea := ea s W ⟨m.k, Nat.le_trans (Nat.mul_le_mul_right _ (Nat.le_max_left _ _)) m.p, Nat.le_trans (Nat.add_le_add_left (Nat.le_max_left _ _) _) m.l⟩
    have eb := eb s W ⟨m.k, Nat.le_trans (Nat.mul_le_mul_right _ (Nat.le_max_right _ _)) m.p, Nat.le_trans (Nat.add_le_add_left (Nat.le_max_right _ _) _) m.l⟩
    unfold RCF at ea eb
    rw [qa] at ea
    rw [qb] at eb
    have ea := up ea (Nat.le_add_right (rl n) 10)
    have eb := up eb (Nat.le_add_right (rl n) 10)
    have u : 1 ≤ rl n + 10 := Nat.le_add_left 1 _
    have tc : ∀ {c v}, callA 1 a_law_run [.cell 37, testD c] (PR Z.c0 Z.c1 Z.c2 Z.c3 Z.ε s) = some (v, PR Z.c0 Z.c1 Z.c2 Z.c3 Z.ε s) → RunsTo Z (rl n + 10) (testD c) s v s := fun h => up (ca h) u
    refine lt3 (P := fun c => RunsTo Z (rl n + 10 + 1) (lowD (.cond c a b)) s (raw 13 (mean Z.ε (.cond c a b) s).1) (mean Z.ε (.cond c a b) s).2) hc ?_ ?_ ?_
    · exact ofR (st (by kernel_rfl) (tc (c := 0) (v := nI 0) (by kernel_rfl)) (st (by kernel_rfl) eb (fn (by kernel_rfl))))
    · exact ofR (st (by kernel_rfl) (tc (c := 1) (v := nI 1) (by kernel_rfl)) (st (by kernel_rfl) ea (fn (by kernel_rfl))))
    · obtain ⟨w, c0, c1, c2, c3, ⟨v2, n3, n4, n5, v6, n7, v8⟩⟩ := Z
      have h5 : n5 < 2 := e.n5
      clear e m
      cases n5 with
      | zero => exact ofR (st (by kernel_rfl) (tc (c := 2) (v := nI 0) (by kernel_rfl)) (st (by kernel_rfl) eb (fn (by kernel_rfl))))
      | succ n5 => exact ofR (st (by kernel_rfl) (tc (c := 2) (v := nI (n5 + 1)) (by kernel_rfl)) (st (by kernel_rfl) ea (fn (by kernel_rfl))))
  | deleg h =>
    rename_i n i
    intro s W b
    have hl : chk (s.2.length + 1) = true := nlog b.l
    have o : ∀ {i}, kindN (i + 1) ∈ kl → i < 8 → (hasK (Nat.beq (kindN (i + 1))) [7, 2, 1] = true → ∃ j, asObj Z.ε s.1 (i + 1) = .prim (kindN (i + 1)) j) → RunsTo Z 2 (boxE (kindN (i + 1)) (locD (i + 1))) s (asObj Z.ε s.1 (i + 1)).d s := fun k h q => run_box k ⟨_, _, rfl⟩ q (run_loc h)
    refine up (m := 3) ?_ (rl3 n)
    exact lt5 (P := fun i => RunsTo Z 3 (lowD (.deleg (dN i))) s (raw 16 (mean Z.ε (.deleg (dN i)) s).1) (mean Z.ε (.deleg (dN i)) s).2) h (ofR (sn (by kernel_rfl) hl (fn (by kernel_rfl)))) (ofR (st (by kernel_rfl) (o (i := 1) (hasK_mem rfl) (by decide) (fun h => nf h)) (sn (by kernel_rfl) hl (fn (by kernel_rfl)))))
      (ofR (st (by kernel_rfl) (o (i := 2) (hasK_mem rfl) (by decide) (fun _ => ⟨_, rfl⟩)) (sn (by kernel_rfl) hl (fn (by kernel_rfl))))) (ofR (st (by kernel_rfl) (o (i := 5) (hasK_mem rfl) (by decide) (fun h => nf h)) (sn (by kernel_rfl) hl (fn (by kernel_rfl))))) (ofR (st (by kernel_rfl) (o (i := 6) (hasK_mem rfl) (by decide) (fun h => nf h)) (sn (by kernel_rfl) hl (fn (by kernel_rfl)))))
  | join o l1 l4 ih =>
    rename_i n l
    intro s W b
    have ch := rch_of (Z := Z) (n := n) e (fun t m => ⟨o t m, ih t m⟩) s W b.k (Nat.le_trans (by rw [prd, Nat.mul_assoc]; exact Nat.le_mul_of_pos_left _ l1) b.p) b.l
    have hz : lenSum ((means Z.ε l s).1.map said) ≤ 16777216 := by
      have := (keeps e (.join o l1 l4 : OkS (n + 1) (.join l)) s W b.k).1.len
      rw [show sl (mean Z.ε (.join l) s).1 = (glue ((means Z.ε l s).1.map said)).length from rfl, glue_len] at this
      exact Nat.le_trans this (Nat.le_trans b.p (by decide))
    refine up (run_joinL (Nat.le_add_left 1 _) l1 ch hz) ?_
    show rl n + 1 + (2 + 2 * l.length) ≤ rl n + 11
    rw [Nat.add_assoc]
    exact Nat.add_le_add_left (Nat.le_trans (Nat.add_le_add_left (Nat.add_le_add_left (Nat.mul_le_mul_left 2 l4) 2) 1) (by decide)) _
end
end Mine
end
noncomputable section
namespace Mine
open PySem PySem.W
section
variable {ε : Va}
theorem fx_mean {t : T} {w : Str} (h : fx t = some w) (s : SS1) : said (mean ε t s).1 = w ∧ (mean ε t s).2 = s := by
  cases t with
  | txt x => cases x <;> (cases h; exact ⟨rfl, rfl⟩)
  | null => cases h; exact ⟨rfl, rfl⟩
  | _ => exact nn h
noncomputable def J (ε : Va) (l : List T) (s : SS1) : Str × SS1 := (glue ((means ε l s).1.map said), (means ε l s).2)
theorem J_cons (t : T) (r : List T) (s : SS1) : J ε (t :: r) s = (said (mean ε t s).1 ++ (J ε r (mean ε t s).2).1, (J ε r (mean ε t s).2).2) :=
  Prod.ext (show glue (said (mean ε t s).1 :: (means ε r (mean ε t s).2).1.map said) = _ from glue_cons _ _) rfl
theorem J_pend (p : Option Str) (l : List T) (s : SS1) : J ε (pend p ++ l) s = (cat p (J ε l s).1, (J ε l s).2) := by
  cases p with
  | none => rfl
  | some q => exact J_cons (.txt (some q)) l s
theorem cat_cat (p : Option Str) (a b : Str) : cat p a ++ b = cat p (a ++ b) := by
  cases p with
  | none => rfl
  | some q => exact str_assoc q a b
theorem J_mg : ∀ (l : List T) (p : Option Str) (s : SS1), J ε (mg p l) s = (cat p (J ε l s).1, (J ε l s).2)
  | [], p, s => by
    have := J_pend (ε := ε) p [] s
    rw [List.append_nil] at this; exact this
  | t :: r, p, s => by
    cases f : fx t with
    | some w =>
      obtain ⟨e1, e2⟩ := fx_mean (ε := ε) f s
      rw [mg_some f, J_mg r, J_cons, e1, e2, show cat (some (cat p w)) (J ε r s).1 = cat p w ++ (J ε r s).1 from rfl, cat_cat]
    | none => rw [mg_none f, J_pend, J_cons, J_mg r none, J_cons]; rfl
theorem mean_mkJ (l : List T) (s : SS1) : mean ε (mkJ l) s = mean ε (.join l) s := by
  unfold mkJ
  cases h : isS1 l with
  | none => rfl
  | some w => rw [isS1_is h]; rfl
theorem mean_foldC (c : Nat) (a b : T) (s : SS1) : mean ε (foldC c a b) s = mean ε (.cond c a b) s := by
  unfold foldC
  cases c with
  | zero => cases Nat.blt 0 2 && (isTxt a && isTxt b) <;> rfl
  | succ c => cases c with
    | zero => cases Nat.blt 1 2 && (isTxt a && isTxt b) <;> rfl
    | succ c => rfl
theorem means_fold : ∀ {l : List T}, (∀ t ∈ l, ∀ s, mean ε (foldT t) s = mean ε t s) → ∀ s, means ε (foldTs l) s = means ε l s
  | [], _, _ => rfl
  | t :: r, h, s => by rw [foldTs, means, means, h t (.head _), means_fold fun x m => h x (.tail _ m)]
theorem mean_fold {n : Nat} {t : T} (h : OkT n t) : ∀ s, mean ε (foldT t) s = mean ε t s := by
  induction h with
  | set _ _ e => exact fun s => by rw [foldT, mean, mean, e]
  | cond _ _ _ _ _ ea eb => exact fun s => by rw [foldT, mean_foldC, mean, mean, ea, eb]
  | join o l1 l4 e =>
    rename_i l
    intro s
    rw [foldT, mean_mkJ]
    show ((.str (J ε (mg none (foldTs l)) s).1 : VV), (J ε (mg none (foldTs l)) s).2) = (.str (J ε l s).1, (J ε l s).2)
    rw [J_mg]
    unfold J
    rw [means_fold e s]; rfl
  | _ => exact fun s => rfl
end
theorem fx_one {t : T} {w : Str} (h : fx t = some w) : prd t = 1 ∧ eff t = 0 := by
  cases t with
  | txt => exact ⟨rfl, rfl⟩
  | null => exact ⟨rfl, rfl⟩
  | _ => exact nn h
theorem pend_one (p : Option Str) (l : List T) : prds (pend p ++ l) = prds l ∧ effs (pend p ++ l) = effs l := by
  cases p with
  | none => exact ⟨rfl, rfl⟩
  | some q => exact ⟨Nat.one_mul _, Nat.zero_add _⟩
theorem mg_one : ∀ (l : List T) (p : Option Str), prds (mg p l) = prds l ∧ effs (mg p l) = effs l
  | [], p => by have := pend_one p []; rw [List.append_nil] at this; exact this
  | t :: r, p => by
    cases f : fx t with
    | some w =>
      obtain ⟨e1, e2⟩ := fx_one f
      rw [mg_some f, prds, effs, e1, e2, Nat.one_mul, Nat.zero_add]
      exact mg_one r _
    | none =>
      obtain ⟨i1, i2⟩ := mg_one r none
      obtain ⟨j1, j2⟩ := pend_one p (t :: mg none r)
      rw [mg_none f, j1, j2, prds, effs, i1, i2]
      exact ⟨rfl, rfl⟩
theorem folds_le : ∀ {l : List T}, (∀ t ∈ l, prd (foldT t) ≤ prd t ∧ eff (foldT t) ≤ eff t) → prds (foldTs l) ≤ prds l ∧ effs (foldTs l) ≤ effs l
  | [], _ => ⟨Nat.le_refl _, Nat.le_refl _⟩
  | t :: r, h => by
    obtain ⟨a, b⟩ := h t (.head _)
    obtain ⟨i1, i2⟩ := folds_le fun x m => h x (.tail _ m)
    exact ⟨Nat.mul_le_mul a i1, Nat.add_le_add b i2⟩
theorem mkJ_le {l : List T} : prd (mkJ l) ≤ l.length * prds l ∧ eff (mkJ l) ≤ effs l := by
  unfold mkJ
  cases h : isS1 l with
  | none => exact ⟨Nat.le_refl _, Nat.le_refl _⟩
  | some w => rw [isS1_is h]; exact ⟨Nat.le_refl _, Nat.zero_le _⟩
theorem fold_le {n : Nat} {t : T} (h : OkT n t) : prd (foldT t) ≤ prd t ∧ eff (foldT t) ≤ eff t := by
  induction h with
  | set _ _ e => exact ⟨e.1, Nat.succ_le_succ e.2⟩
  | cond _ _ _ _ _ ea eb =>
    rename_i c a b _ _ _ _ _
    have m1 : max (prd (foldT a)) (prd (foldT b)) ≤ max (prd a) (prd b) := Nat.max_le.mpr ⟨Nat.le_trans ea.1 (Nat.le_max_left _ _), Nat.le_trans eb.1 (Nat.le_max_right _ _)⟩
    have m2 : max (eff (foldT a)) (eff (foldT b)) ≤ max (eff a) (eff b) := Nat.max_le.mpr ⟨Nat.le_trans ea.2 (Nat.le_max_left _ _), Nat.le_trans eb.2 (Nat.le_max_right _ _)⟩
    show prd (foldC c (foldT a) (foldT b)) ≤ max (prd a) (prd b) ∧ eff (foldC c (foldT a) (foldT b)) ≤ max (eff a) (eff b)
    unfold foldC
    cases Nat.blt c 2 && (isTxt (foldT a) && isTxt (foldT b)) with
    | false => exact ⟨m1, m2⟩
    | true =>
      show prd (pick c (foldT a) (foldT b)) ≤ _ ∧ eff (pick c (foldT a) (foldT b)) ≤ _
      unfold pick
      split
      · exact ⟨Nat.le_trans (Nat.le_max_left _ _) m1, Nat.le_trans (Nat.le_max_left _ _) m2⟩
      · exact ⟨Nat.le_trans (Nat.le_max_right _ _) m1, Nat.le_trans (Nat.le_max_right _ _) m2⟩
  | join o l1 l4 e =>
    rename_i l
    obtain ⟨a, b⟩ := mkJ_le (l := mg none (foldTs l))
    obtain ⟨c, d⟩ := mg_one (foldTs l) none
    obtain ⟨i, _⟩ := mg_le (foldTs l) none
    obtain ⟨f1, f2⟩ := folds_le e
    rw [foldTs_length, show (pend none).length = 0 from rfl, Nat.zero_add] at i
    rw [c] at a
    rw [d] at b
    exact ⟨Nat.le_trans a (Nat.mul_le_mul i f1), Nat.le_trans b f2⟩
  | _ => exact ⟨Nat.le_refl _, Nat.le_refl _⟩
theorem MB.fold {n : Nat} {t : T} (h : OkT n t) {s : SS1} {W : Nat} (b : MB t s W) : MB (foldT t) s W := ⟨b.k, Nat.le_trans (Nat.mul_le_mul_right _ (fold_le h).1) b.p, Nat.le_trans (Nat.add_le_add_left (fold_le h).2 _) b.l⟩
theorem cubes : ∀ {l : List T}, (∀ t ∈ l, 3 * prd t ^ 3 ≤ 3 ^ pc t) → 3 ^ l.length * prds l ^ 3 ≤ 3 ^ pcs l
  | [], _ => Nat.le_refl _
  | t :: r, h => by
    have a := Nat.mul_le_mul (h t (.head _)) (cubes fun x m => h x (.tail _ m))
    rw [← Nat.pow_add] at a
    show 3 ^ (r.length + 1) * (prd t * prds r) ^ 3 ≤ 3 ^ (pc t + pcs r)
    rw [Nat.mul_pow, Nat.pow_succ]
    refine Nat.le_trans (Nat.le_of_eq ?_) a
    rw [Nat.mul_comm (3 ^ r.length) 3, Nat.mul_assoc, Nat.mul_assoc, Nat.mul_left_comm (3 ^ r.length)]
theorem effs_pcs : ∀ {l : List T}, (∀ t ∈ l, eff t ≤ 2 * pc t) → effs l ≤ 2 * pcs l
  | [], _ => Nat.le_refl _
  | t :: r, h => by rw [pcs, Nat.mul_add]; exact Nat.add_le_add (h t (.head _)) (effs_pcs fun x m => h x (.tail _ m))
theorem cost {n : Nat} {t : T} (h : OkT n t) : (3 * prd t ^ 3 ≤ 3 ^ pc t ∧ eff t ≤ 2 * pc t) ∧ (isX t = true → prd t ^ 3 ≤ 3 ^ tc t ∧ eff t ≤ 2 * tc t + 1) := by
  induction h with
  | set _ x e =>
    obtain ⟨a, b⟩ := e.2 x
    refine ⟨⟨?_, Nat.succ_le_succ b⟩, fun h => nf h⟩
    show 3 * prd _ ^ 3 ≤ 3 ^ (tc _ + 1)
    rw [Nat.pow_succ, Nat.mul_comm 3]; exact Nat.mul_le_mul_right 3 a
  | cond _ _ xa _ xb ea eb =>
    rename_i c a b _ _ _
    obtain ⟨a1, a2⟩ := ea.2 xa
    obtain ⟨b1, b2⟩ := eb.2 xb
    refine ⟨⟨?_, ?_⟩, fun h => nf h⟩
    · show 3 * max (prd a) (prd b) ^ 3 ≤ 3 ^ (tc a + tc b + 1)
      rw [Nat.pow_succ, Nat.mul_comm 3]
      refine Nat.mul_le_mul_right 3 ?_
      rcases Nat.le_total (prd a) (prd b) with h | h
      · rw [Nat.max_eq_right h]; exact Nat.le_trans b1 (Nat.pow_le_pow_right (by decide) (Nat.le_add_left _ _))
      · rw [Nat.max_eq_left h]; exact Nat.le_trans a1 (Nat.pow_le_pow_right (by decide) (Nat.le_add_right _ _))
    · show max (eff a) (eff b) ≤ 2 * (tc a + tc b + 1)
      exact Nat.max_le.mpr ⟨by omega, by omega⟩
  | join o l1 l4 e =>
    rename_i l
    have j : prd (.join l) ^ 3 ≤ 3 ^ pcs l := by
      show (l.length * prds l) ^ 3 ≤ _
      rw [Nat.mul_pow]
      have : l.length ^ 3 ≤ 3 ^ l.length := ltS (P := fun n => n ^ 3 ≤ 3 ^ n) (Nat.lt_succ_of_le l4) (by decide) fun r h => lt4 (P := fun n => (n + 1) ^ 3 ≤ 3 ^ (n + 1)) h (by decide) (by decide) (by decide) (by decide)
      exact Nat.le_trans (Nat.mul_le_mul_right _ this) (cubes fun t m => (e t m).1.1)
    have k : eff (.join l) ≤ 2 * pcs l := effs_pcs fun t m => (e t m).1.2
    refine ⟨⟨?_, Nat.le_trans k (Nat.mul_le_mul_left 2 (Nat.le_succ _))⟩, fun _ => ⟨Nat.le_trans j (Nat.pow_le_pow_right (by decide) (Nat.le_succ _)), Nat.le_trans k (Nat.le_trans (Nat.mul_le_mul_left 2 (Nat.le_succ _)) (Nat.le_succ _))⟩⟩
    show 3 * _ ≤ 3 ^ (pcs l + 1)
    rw [Nat.pow_succ, Nat.mul_comm 3]; exact Nat.mul_le_mul_right 3 j
  | call => exact ⟨⟨Nat.le_refl 3, Nat.le_succ 1⟩, fun _ => ⟨Nat.le_refl 1, Nat.le_refl 1⟩⟩
  | deleg => exact ⟨⟨Nat.le_refl 3, Nat.le_succ 1⟩, fun h => nf h⟩
  | _ => exact ⟨⟨Nat.le_refl 3, Nat.zero_le _⟩, fun _ => ⟨Nat.le_refl 1, Nat.zero_le _⟩⟩
theorem tree_MB {n : Nat} {l : List T} (h : OkT n (.join l)) (hp : pcs l ≤ 28) {v : VV} (hv : isS v = true) (hl : sl v ≤ 12) : MB (.join l) (v, []) 100 := by
  obtain ⟨⟨a, b⟩, _⟩ := cost h
  refine ⟨⟨Nat.le_refl _, hv, Nat.le_trans hl (by decide)⟩, ?_, ?_⟩
  · have : prd (.join l) ≤ 160000 := by
      refine Nat.le_of_not_lt fun q => ?_
      have c : 3 * 160001 ^ 3 ≤ 3 ^ 29 := Nat.le_trans (Nat.mul_le_mul_left 3 (Nat.pow_le_pow_left q 3)) (Nat.le_trans a (Nat.pow_le_pow_right (by decide) (Nat.succ_le_succ hp)))
      exact absurd c (by decide)
    exact Nat.mul_le_mul_right 100 this
  · show 0 + eff (.join l) ≤ 16000000
    rw [Nat.zero_add]
    exact Nat.le_trans b (Nat.le_trans (Nat.mul_le_mul_left 2 (Nat.succ_le_succ hp)) (by decide))
end Mine
end
noncomputable section
namespace Mine
open PySem PySem.W
noncomputable def runsN : Bool → List Bool → Nat
  | _, [] => 0
  | b, f :: r => (match f && b with
    | true => 0
    | false => 1) + runsN f r
noncomputable def lastB : Bool → List Bool → Bool
  | b, [] => b
  | _, f :: r => lastB f r
noncomputable def totalN : Nat → List Nat → Nat
  | a, [] => a
  | a, m :: r => totalN (a + m) r
noncomputable def cntJ (l : List (Bool × Nat)) : Bool × Nat := match Nat.beq (runsN false (l.map (·.1))) 1 && lastB false (l.map (·.1)) with
  | true => (true, 0)
  | false => (false, totalN 0 (l.map (·.2)) + max 1 (runsN false (l.map (·.1)) - 1))
mutual
noncomputable def cnt : T → Bool × Nat
  | .txt _ => (true, 0)
  | .null => (true, 0)
  | .set t => (false, (cnt t).2)
  | .cond c a b => (Nat.blt c 2 && ((cnt a).1 && (cnt b).1), (cnt a).2 + (cnt b).2)
  | .join l => cntJ (cnts l)
  | _ => (false, 0)
noncomputable def cnts : List T → List (Bool × Nat)
  | [] => []
  | t :: r => cnt t :: cnts r
end
noncomputable def cD2 (p : Bool × Nat) : D := .tup [.bool p.1, nI p.2]
section
variable {w : World} {pi : List Cell} {m n : Nat}
abbrev CCF (w : World) (pi : List Cell) (n : Nat) (x : D) (p : Bool × Nat) : Prop := CF w n a_law_count [x] pi (cD2 p, pi)
theorem cj1 {x : D} {p : Bool × Nat} (h : CCF w pi m x p) : CCF w pi (m + 1) (.tup [.str sJoin, .lst [x]]) (cntJ [p]) := by
  obtain ⟨f, k⟩ := p
  cases f <;> exact ofR (st (by kernel_rfl) h (fn (by kernel_rfl)))
theorem cj2 {x1 x2 : D} {p1 p2 : Bool × Nat} (h1 : CCF w pi m x1 p1) (h2 : CCF w pi m x2 p2) : CCF w pi (m + 1) (.tup [.str sJoin, .lst [x1, x2]]) (cntJ [p1, p2]) := by
  obtain ⟨f1, k1⟩ := p1
  obtain ⟨f2, k2⟩ := p2
  cases f1 <;> cases f2 <;> exact ofR (st (by kernel_rfl) h1 (st (by kernel_rfl) h2 (fn (by kernel_rfl))))
theorem cj3 {x1 x2 x3 : D} {p1 p2 p3 : Bool × Nat} (h1 : CCF w pi m x1 p1) (h2 : CCF w pi m x2 p2) (h3 : CCF w pi m x3 p3) : CCF w pi (m + 1) (.tup [.str sJoin, .lst [x1, x2, x3]]) (cntJ [p1, p2, p3]) := by
  obtain ⟨f1, k1⟩ := p1
  obtain ⟨f2, k2⟩ := p2
  obtain ⟨f3, k3⟩ := p3
  cases f1 <;> cases f2 <;> cases f3 <;> exact ofR (st (by kernel_rfl) h1 (st (by kernel_rfl) h2 (st (by kernel_rfl) h3 (fn (by kernel_rfl)))))
theorem cj4 {x1 x2 x3 x4 : D} {p1 p2 p3 p4 : Bool × Nat} (h1 : CCF w pi m x1 p1) (h2 : CCF w pi m x2 p2) (h3 : CCF w pi m x3 p3) (h4 : CCF w pi m x4 p4) : CCF w pi (m + 1) (.tup [.str sJoin, .lst [x1, x2, x3, x4]]) (cntJ [p1, p2, p3, p4]) := by
  obtain ⟨f1, k1⟩ := p1
  obtain ⟨f2, k2⟩ := p2
  obtain ⟨f3, k3⟩ := p3
  obtain ⟨f4, k4⟩ := p4
  cases f1 <;> cases f2 <;> cases f3 <;> cases f4 <;> exact ofR (st (by kernel_rfl) h1 (st (by kernel_rfl) h2 (st (by kernel_rfl) h3 (st (by kernel_rfl) h4 (fn (by kernel_rfl))))))
theorem cd_cond {c : Nat} {a b : D} {p1 p2 : Bool × Nat} (hc : c < 3) (h1 : CCF w pi m a p1) (h2 : CCF w pi m b p2) : CCF w pi (m + 1) (.tup [.str sCond, nI c, a, b]) (Nat.blt c 2 && (p1.1 && p2.1), p1.2 + p2.2) := by
  obtain ⟨f1, k1⟩ := p1
  obtain ⟨f2, k2⟩ := p2
  refine lt3 (P := fun c => CCF w pi (m + 1) (.tup [.str sCond, nI c, a, b]) (Nat.blt c 2 && (f1 && f2), k1 + k2)) hc ?_ ?_ ?_ <;> cases f1 <;> cases f2 <;> exact ofR (st (by kernel_rfl) h1 (st (by kernel_rfl) h2 (fn (by kernel_rfl))))
theorem count_ok {t : T} (h : OkT n t) : CCF w pi n (enc t) (cnt t) := by
  induction h with
  | txt => rename_i w _; cases w <;> exact ofR (fn (by kernel_rfl))
  | set _ _ e => exact ofR (st (by kernel_rfl) e (fn (by kernel_rfl)))
  | call => rename_i o _; cases o <;> exact ofR (fn (by kernel_rfl))
  | cond hc _ _ _ _ ea eb => exact cd_cond hc ea eb
  | join _ l1 l4 e => exact pcs4 (P := fun t => CCF w pi _ (enc t) (cnt t)) (Q := fun l => CCF w pi _ (enc (.join l)) (cnt (.join l))) e l1 l4 (fun a => cj1 a) (fun a b => cj2 a b) (fun a b c => cj3 a b c) fun a b c d => cj4 a b c d
  | _ => exact ofR (fn (by kernel_rfl))
noncomputable def JN (w : World) (m : Nat) (x : D) (k : Nat) : Prop := ∀ pi, CF w m a_law_joinings [x] pi (nI k, pi)
theorem JN.up {m m' k : Nat} {x : D} (h : JN w m x k) (l : m ≤ m') : JN w m' x k := fun pi => Mine.up (h pi) l
theorem fnE {t : Tr} (x : D) {y : D} (h : ends t = some (endO (x, pi))) (e : x = y) : Runs w m t (y, pi) := fn (e ▸ h)
theorem jn_jn {a b i : Nat} {x y : D} (hi : i = 10 ∨ i = 20) (h5 : 5 ≤ m) (h1 : JN w m x a) (h2 : JN w m y b) : JN w (m + 1) (jnD i x y) (1 + a + b) := fun pi => by
  rcases hi with rfl | rfl <;> exact ofR (sC h5 2 (st (by kernel_rfl) (h1 pi) (st (by kernel_rfl) (h2 pi) (fn (by kernel_rfl)))))
theorem jn_conv {a : Nat} {l : List D} (c : Nat) (h5 : 5 ≤ m) (h : JN w m (.tup l) a) : JN w (m + 1) (.tup [nI 19, nI 12, .tup l, nI c, nI 0]) a := fun pi => by
  exact ofR (sC h5 2 (st (by kernel_rfl) (h pi) (fnE (nI (0 + a)) (by kernel_rfl) (congrArg nI (Nat.zero_add a)))))
theorem jn_box {a k : Nat} {x : D} (h5 : 5 ≤ m) (s : Shape k x) (h : JN w m x a) : JN w (m + 1) (boxE k x) a := by
  unfold boxE
  cases byp k with
  | true => obtain ⟨o, r, rfl⟩ := s; exact jn_conv 4 h5 h
  | false => exact h.up (Nat.le_succ _)
theorem jn_asO {a k : Nat} {x : D} (h5 : 5 ≤ m) (s : Shape k x) (h : JN w m x a) : JN w (m + 1) (asO k x) a := by
  unfold asO
  cases Nat.beq k 13 with
  | true => obtain ⟨o, r, rfl⟩ := s; exact jn_conv 2 h5 h
  | false => exact h.up (Nat.le_succ _)
theorem jn_joinE {a b k1 k2 : Nat} {x y : D} (h5 : 5 ≤ m) (hx : Shape k1 x) (hy : Shape k2 y) (h1 : JN w m x a) (h2 : JN w m y b) : JN w (m + 2) (joinE k1 x k2 y) (1 + a + b) := by
  unfold joinE
  cases Nat.beq k1 13 && Nat.beq k2 13 with
  | true => exact (jn_jn (.inl rfl) h5 h1 h2).up (Nat.le_succ _)
  | false => exact jn_jn (.inr rfl) (Nat.le_trans h5 (Nat.le_succ _)) (jn_asO h5 hx h1) (jn_asO h5 hy h2)
mutual
noncomputable def jnT : T → Nat
  | .set t => jnT t
  | .cond _ a b => jnT a + jnT b
  | .join l => max 1 (l.length - 1) + jnTs l
  | _ => 0
noncomputable def jnTs : List T → Nat
  | [] => 0
  | t :: r => jnT t + jnTs r
end
abbrev JP (w : World) (m : Nat) (t : T) : Prop := Shape (bk (kdT t)) (boxE (kdT t) (lowD t)) ∧ JN w m (boxE (kdT t) (lowD t)) (jnT t)
theorem jn_joinR (h5 : 5 ≤ m) : ∀ {l : List T} (k a : Nat) {x : D}, (∀ t ∈ l, JP w m t) → Shape 13 x → JN w (m + k) x a → JN w (m + (k + 2 * l.length)) (joinR x (lowP l)) (a + (l.length + jnTs l))
  | [], k, a, x, _, _, h => h
  | t :: r, k, a, x, hl, hx, h => by
    obtain ⟨s, ht⟩ := hl t (.head _)
    have j := jn_joinE (Nat.le_trans h5 (Nat.le_add_right m k)) hx s h (ht.up (Nat.le_add_right m k))
    have := jn_joinR h5 (k + 2) (1 + a + jnT t) (fun x m => hl x (.tail _ m)) (joinE_shape 13 x (bk (kdT t)) (boxE (kdT t) (lowD t))) j
    rw [List.length_cons, Nat.mul_succ, Nat.add_comm (2 * r.length), ← Nat.add_assoc k, show a + (r.length + 1 + jnTs (t :: r)) = 1 + a + jnT t + (r.length + jnTs r) from ?_]
    · exact this
    · show a + (r.length + 1 + (jnT t + jnTs r)) = _
      omega
theorem jn_joinL (h5 : 5 ≤ m) {l : List T} (l1 : 1 ≤ l.length) (h : ∀ t ∈ l, JP w m t) : JN w (m + (2 + 2 * l.length)) (joinL (lowP l)) (max 1 (l.length - 1) + jnTs l) := by
  cases l with
  | nil => exact absurd l1 (Nat.not_succ_le_zero _)
  | cons t r =>
    obtain ⟨s, ht⟩ := h t (.head _)
    cases r with
    | nil =>
      have e : JN w m emptyE 0 := JN.up (m := 5) (fun pi => ca (by kernel_rfl)) h5
      exact (jn_joinE h5 s (⟨_, _, rfl⟩ : Shape 13 emptyE) ht e).up (Nat.add_le_add_left (Nat.le_add_right _ _) _)
    | cons u r =>
      obtain ⟨s2, hu⟩ := h u mem2
      have j := jn_joinE h5 s s2 ht hu
      have := jn_joinR h5 2 (1 + jnT t + jnT u) (fun x m => h x (.tail _ (.tail _ m))) (joinE_shape (bk (kdT t)) (boxE (kdT t) (lowD t)) (bk (kdT u)) (boxE (kdT u) (lowD u))) j
      rw [show max 1 ((t :: u :: r).length - 1) + jnTs (t :: u :: r) = 1 + jnT t + jnT u + (r.length + jnTs r) from ?_]
      · exact this.up (Nat.add_le_add_left (Nat.add_le_add_left (Nat.mul_le_mul_left 2 (Nat.le_trans (Nat.le_succ _) (Nat.le_succ _))) 2) m)
      · show max 1 (r.length + 1) + (jnT t + (jnT u + jnTs r)) = _
        rw [Nat.max_eq_right (Nat.le_add_left 1 _)]; omega
noncomputable def jl : Nat → Nat
  | 0 => 8
  | n + 1 => jl n + 11
theorem jl8 : ∀ n, 8 ≤ jl n
  | 0 => Nat.le_refl _
  | n + 1 => Nat.le_trans (jl8 n) (Nat.le_add_right _ _)
noncomputable def lowL (t : T) : List D := match lowD t with
  | .tup l => l
  | _ => []
theorem low_tup {t : T} (h : OkS n t) : lowD t = .tup (lowL t) := by
  obtain ⟨o, r, e⟩ := lowD_shape h
  unfold lowL
  rw [e]
theorem jn_ok {t : T} (h : OkS n t) : JN w (jl n) (lowD t) (jnT t) := by
  have lf : ∀ {n x}, (∀ pi, callA 8 a_law_joinings [x] pi = some (nI 0, pi)) → JN w (jl n) x 0 := fun {n x} h pi => Mine.up (ca (h pi)) (jl8 n)
  induction h with
  | loc h => rename_i n _; exact lt8 (P := fun i => JN w (jl n) (locD (i + 1)) 0) h (lf fun pi => by kernel_rfl) (lf fun pi => by kernel_rfl) (lf fun pi => by kernel_rfl) (lf fun pi => by kernel_rfl) (lf fun pi => by kernel_rfl) (lf fun pi => by kernel_rfl) (lf fun pi => by kernel_rfl) (lf fun pi => by kernel_rfl)
  | call h => rename_i n k o; exact lt4 (P := fun k => JN w (jl n) (callD o k) 0) h (lf fun pi => by kernel_rfl) (lf fun pi => by kernel_rfl) (lf fun pi => by kernel_rfl) (lf fun pi => by kernel_rfl)
  | deleg h => rename_i n _; exact lt5 (P := fun i => JN w (jl n) (fnD (dN i) (lowO (dN i))) 0) h (lf fun pi => by kernel_rfl) (lf fun pi => by kernel_rfl) (lf fun pi => by kernel_rfl) (lf fun pi => by kernel_rfl) (lf fun pi => by kernel_rfl)
  | set o q e =>
    rename_i n t
    intro pi
    have h5 : 5 ≤ jl n + 10 := Nat.le_trans (by decide) (Nat.le_add_left 10 _)
    have e := Mine.up (e pi) (Nat.le_add_right (jl n) 10)
    rw [low_tup o] at e
    show CF w (jl n + 10 + 1) a_law_joinings [.tup [nI 22, nI 13, locD 1, lowD t]] pi (nI (jnT t), pi)
    rw [low_tup o]
    exact ofR (sC h5 3 (st (by kernel_rfl) e (fnE (nI (0 + 0 + jnT t)) (by kernel_rfl) (congrArg nI (Nat.zero_add _)))))
  | cond hc oa _ ob _ ea eb =>
    rename_i n c a b _ _
    intro pi
    have h5 : 5 ≤ jl n + 10 := Nat.le_trans (by decide) (Nat.le_add_left 10 _)
    have ea := Mine.up (ea pi) (Nat.le_add_right (jl n) 10)
    have eb := Mine.up (eb pi) (Nat.le_add_right (jl n) 10)
    have ft : CF w (jl n + 10) a_law_joinings [testD c] pi (nI 0, pi) := lt3 (P := fun c => CF w (jl n + 10) a_law_joinings [testD c] pi (nI 0, pi)) hc (Mine.up (ca (by kernel_rfl)) h5) (Mine.up (ca (by kernel_rfl)) h5) (Mine.up (ca (by kernel_rfl)) h5)
    rw [low_tup oa] at ea
    rw [low_tup ob] at eb
    obtain ⟨lt, et⟩ := testD_tup hc
    show CF w (jl n + 10 + 1) a_law_joinings [cD (testD c) (lowD a) (lowD b)] pi (nI (jnT a + jnT b), pi)
    rw [low_tup oa, low_tup ob]
    rw [et] at ft ⊢
    exact ofR (sC h5 2 (st (by kernel_rfl) ft (st (by kernel_rfl) ea (st (by kernel_rfl) eb (fnE (nI (0 + 0 + jnT a + jnT b)) (by kernel_rfl) (congrArg (fun x => nI (x + jnT b)) (Nat.zero_add _)))))))
  | join o l1 l4 e =>
    rename_i n l
    have h5 : 5 ≤ jl n + 1 := Nat.le_trans (by decide) (Nat.le_trans (jl8 n) (Nat.le_succ _))
    refine (jn_joinL h5 l1 fun t m => ⟨boxE_shape (lowD_shape (o t m)), jn_box (Nat.le_trans (by decide) (jl8 n)) (lowD_shape (o t m)) (e t m)⟩).up ?_
    show jl n + 1 + (2 + 2 * l.length) ≤ jl n + 11
    rw [Nat.add_assoc]
    exact Nat.add_le_add_left (Nat.le_trans (Nat.add_le_add_left (Nat.add_le_add_left (Nat.mul_le_mul_left 2 l4) 2) 1) (by decide)) _
  | _ => exact lf fun pi => by kernel_rfl
end
end Mine
end
noncomputable section
namespace Mine
open PySem PySem.W
noncomputable abbrev fxs (l : List T) : List Bool := l.map fun t => (fx t).isSome
theorem len_mg : ∀ (l : List T) (p : Option Str), (mg p l).length = (pend p).length + runsN p.isSome (fxs l) ∧ (lastO p l).isSome = lastB p.isSome (fxs l)
  | [], p => ⟨rfl, rfl⟩
  | t :: r, p => by
    show _ = (pend p).length + runsN p.isSome ((fx t).isSome :: fxs r) ∧ _ = lastB (fx t).isSome (fxs r)
    cases f : fx t with
    | some w =>
      obtain ⟨i1, i2⟩ := len_mg r (some (cat p w))
      rw [mg_some f, la_some f, i1]
      refine ⟨?_, i2⟩
      cases p with
      | none => exact (Nat.zero_add _).symm
      | some q => exact congrArg (1 + ·) (Nat.zero_add _).symm
    | none =>
      obtain ⟨i1, i2⟩ := len_mg r none
      rw [mg_none f, la_none f, List.length_append, List.length_cons, i1, show (pend none).length = 0 from rfl, Nat.zero_add, Nat.add_comm _ 1]
      exact ⟨rfl, i2⟩
theorem jn_fx {t : T} {w : Str} (h : fx t = some w) : jnT t = 0 := by
  cases t with
  | txt => rfl
  | null => rfl
  | _ => exact nn h
theorem jns_pend (p : Option Str) (l : List T) : jnTs (pend p ++ l) = jnTs l := by
  cases p with
  | none => rfl
  | some q => exact Nat.zero_add _
theorem jns_mg : ∀ (l : List T) (p : Option Str), jnTs (mg p l) = jnTs l
  | [], p => by have := jns_pend p []; rw [List.append_nil] at this; exact this
  | t :: r, p => by
    cases f : fx t with
    | some w => rw [mg_some f, jns_mg r, jnTs, jn_fx f, Nat.zero_add]
    | none => rw [mg_none f, jns_pend, jnTs, jns_mg r none, jnTs]
noncomputable def CT (t : T) : Prop := (fx (foldT t)).isSome = (cnt t).1 ∧ jnT (foldT t) = (cnt t).2 ∧ ((cnt t).1 = true → (cnt t).2 = 0)
theorem cnts_ok : ∀ {l : List T}, (∀ t ∈ l, CT t) → fxs (foldTs l) = (cnts l).map (·.1) ∧ ∀ a, totalN a ((cnts l).map (·.2)) = a + jnTs (foldTs l)
  | [], _ => ⟨rfl, fun _ => rfl⟩
  | t :: r, h => by
    obtain ⟨a, b, _⟩ := h t (.head _)
    obtain ⟨i1, i2⟩ := cnts_ok fun x m => h x (.tail _ m)
    refine ⟨?_, fun n => ?_⟩
    · show (fx (foldT t)).isSome :: fxs (foldTs r) = (cnt t).1 :: (cnts r).map (·.1)
      rw [a, i1]
    · show totalN (n + (cnt t).2) ((cnts r).map (·.2)) = n + (jnT (foldT t) + jnTs (foldTs r))
      rw [i2, b, Nat.add_assoc]
theorem fx_X {t : T} (h : isX t = true) : isTxt t = (fx t).isSome := by
  cases t with
  | txt w => rfl
  | loc => rfl
  | call => rfl
  | join => rfl
  | _ => exact nf h
theorem cnt_ok {n : Nat} {t : T} (h : OkT n t) : CT t := by
  induction h with
  | txt => exact ⟨rfl, rfl, fun _ => rfl⟩
  | null => exact ⟨rfl, rfl, fun _ => rfl⟩
  | set _ _ e => exact ⟨rfl, e.2.1, fun h => nf h⟩
  | cond _ _ xa _ xb ea eb =>
    rename_i c a b _ _ _
    obtain ⟨a1, a2, a3⟩ := ea
    obtain ⟨b1, b2, b3⟩ := eb
    show (fx (foldC c (foldT a) (foldT b))).isSome = (Nat.blt c 2 && ((cnt a).1 && (cnt b).1)) ∧ jnT (foldC c (foldT a) (foldT b)) = (cnt a).2 + (cnt b).2 ∧ ((Nat.blt c 2 && ((cnt a).1 && (cnt b).1)) = true → (cnt a).2 + (cnt b).2 = 0)
    unfold foldC
    rw [fx_X (isX_fold xa), fx_X (isX_fold xb), a1, b1]
    cases q : Nat.blt c 2 && ((cnt a).1 && (cnt b).1) with
    | false => exact ⟨rfl, by show jnT (foldT a) + jnT (foldT b) = _; rw [a2, b2], fun h => nf h⟩
    | true =>
      obtain ⟨_, q⟩ := Bool.and_eq_true_iff.mp q
      obtain ⟨qa, qb⟩ := Bool.and_eq_true_iff.mp q
      have z : (cnt a).2 + (cnt b).2 = 0 := by rw [a3 qa, b3 qb]
      show (fx (pick c (foldT a) (foldT b))).isSome = true ∧ jnT (pick c (foldT a) (foldT b)) = _ ∧ _
      unfold pick
      split
      · exact ⟨a1.trans qa, by rw [z, a2, a3 qa], fun _ => z⟩
      · exact ⟨b1.trans qb, by rw [z, b2, b3 qb], fun _ => z⟩
  | join o l1 l4 e =>
    rename_i l
    obtain ⟨f1, f2⟩ := cnts_ok e
    obtain ⟨m1, m2⟩ := len_mg (foldTs l) none
    rw [f1, show (pend none).length = 0 from rfl, Nat.zero_add, show (none : Option Str).isSome = false from rfl] at m1
    rw [f1, show (none : Option Str).isSome = false from rfl] at m2
    show (fx (mkJ (mg none (foldTs l)))).isSome = (cntJ (cnts l)).1 ∧ jnT (mkJ (mg none (foldTs l))) = (cntJ (cnts l)).2 ∧ ((cntJ (cnts l)).1 = true → (cntJ (cnts l)).2 = 0)
    unfold cntJ mkJ
    rw [← m1, ← m2]
    cases q : isS1 (mg none (foldTs l)) with
    | some s =>
      rw [s1_some q, isS1_is q]
      exact ⟨rfl, rfl, fun _ => rfl⟩
    | none =>
      have : (Nat.beq (mg none (foldTs l)).length 1 && (lastO none (foldTs l)).isSome) = false := by
        by_cases z : (mg none (foldTs l)).length = 1
        · rw [s1_none q z]; exact Bool.and_false _
        · rw [show Nat.beq (mg none (foldTs l)).length 1 = false from Bool.eq_false_iff.mpr fun w => z (Nat.eq_of_beq_eq_true w)]; rfl
      rw [this]
      refine ⟨rfl, ?_, fun h => nf h⟩
      show max 1 ((mg none (foldTs l)).length - 1) + jnTs (mg none (foldTs l)) = totalN 0 ((cnts l).map (·.2)) + _
      rw [jns_mg, f2, Nat.zero_add, Nat.add_comm]
  | _ => exact ⟨rfl, rfl, fun h => nf h⟩
noncomputable def isJ (t : T) : Bool := match t with
  | .join _ => true
  | _ => false
noncomputable def flags : Bool → List T → List Bool
  | _, [] => []
  | b, t :: r => match (cnt t).1 && b with
    | true => flags (cnt t).1 r
    | false => (isJ t && !(cnt t).1) :: flags (cnt t).1 r
theorem isJ_fold {n : Nat} {t : T} (ok : OkT n t) (f : fx (foldT t) = none) : isJ (foldT t) = isJ t := by
  cases ok with
  | join =>
    rename_i l _ _ _
    have f : fx (mkJ (mg none (foldTs l))) = none := f
    show isJ (mkJ (mg none (foldTs l))) = true
    unfold mkJ at f ⊢
    cases q : isS1 (mg none (foldTs l)) with
    | none => rfl
    | some s => rw [q] at f; exact nn f.symm
  | cond hc oa xa ob xb =>
    rename_i n c a b
    have f : fx (foldC c (foldT a) (foldT b)) = none := f
    show isJ (foldC c (foldT a) (foldT b)) = false
    unfold foldC at f ⊢
    rw [fx_X (isX_fold xa), fx_X (isX_fold xb)] at f ⊢
    cases q : Nat.blt c 2 && ((fx (foldT a)).isSome && (fx (foldT b)).isSome) with
    | false => rfl
    | true =>
      rw [q] at f
      obtain ⟨_, q⟩ := Bool.and_eq_true_iff.mp q
      obtain ⟨qa, qb⟩ := Bool.and_eq_true_iff.mp q
      have f : fx (pick c (foldT a) (foldT b)) = none := f
      unfold pick at f
      split at f
      · rw [f] at qa; exact nf qa
      · rw [f] at qb; exact nf qb
  | _ => rfl
theorem flags_mg {n : Nat} : ∀ {l : List T} (p : Option Str), (∀ t ∈ l, OkT n t) → (mg p (foldTs l)).map isJ = (pend p).map (fun _ => false) ++ flags p.isSome l
  | [], p, _ => by cases p <;> rfl
  | t :: r, p, h => by
    have o := h t (.head _)
    have c := (cnt_ok o).1
    have hr := fun x m => h x (.tail _ m)
    unfold flags
    rw [← c, foldTs]
    cases f : fx (foldT t) with
    | some w =>
      rw [mg_some f, flags_mg _ hr]
      cases p with
      | none => show false :: flags true r = (isJ t && false) :: flags true r; rw [Bool.and_false]
      | some q => rfl
    | none =>
      rw [mg_none f, List.map_append, List.map_cons, flags_mg none hr, isJ_fold o f]
      have : (pend p).map isJ = (pend p).map fun _ => false := by cases p <;> rfl
      rw [this]
      show _ ++ isJ t :: flags false r = _ ++ (isJ t && true) :: flags false r
      rw [Bool.and_true]
noncomputable def flR (x t b : D) (one fixed left right : Option V) : Rho := ("e", some (.dat x)) :: ("t", some (.dat t)) :: ("runs", some (.loc 0)) :: ("before", some (.dat b)) :: ("one", one) :: ("fixed", fixed) :: ("left", left) :: ("right", right) :: (rho0 (fnR (H.st 171)).scope.names [] []).drop 8
noncomputable abbrev jT (l : List D) : D := .tup [.str sJoin, .lst l]
noncomputable def flT (x : D) (l : List D) (pi : List Cell) : Tr := adv 1 (Bu false true true a_law_from_left [x, jT l] pi)
noncomputable def flW (x : D) (l : List D) (pi : List Cell) (r : Rho) (q : St) : Tr := feedO (flT x l pi) (none, r, q)
noncomputable def hd (t : T) : Str := match enc t with
  | .tup l => match l with
    | d :: _ => (dStr d).getD s0
    | [] => s0
  | _ => s0
noncomputable def tlD (t : T) : List D := match enc t with
  | .tup l => l.tail
  | _ => []
theorem enc_hd (t : T) : enc t = .tup (.str (hd t) :: tlD t) := by cases t <;> rfl
theorem hd_join (t : T) : sq (hd t) ("join" : Str) = isJ t := by cases t <;> kernel_rfl
section
variable {w : World} {pi : List Cell} {m n k : Nat} {x t0 : D} {l rs : List D}
theorem fl_loop : loops (flT x l pi) = some (l, flR x (jT l) (.bool false) none none none none, ⟨pi, [[]]⟩) := by kernel_rfl
noncomputable def flL (f b j : Bool) (rs : List D) : List D := match f && b with
  | true => rs
  | false => rs ++ [.bool (j && !f)]
theorem fl_turn {a : T} {f b : Bool} {one fixed : Option V} (hc : CCF w pi m (enc a) (f, k)) (hr : rs.length + 1 ≤ 16777216) :
    RunC w m (turnL (flT x l pi) (enc a) (flR x t0 (.bool b) one fixed none none) ⟨pi, [rs]⟩) (none, flR x t0 (.bool f) (some (.dat (enc a))) (some (.dat (.bool f))) none none, ⟨pi, [flL f b (isJ a) rs]⟩) := by
  have hj := hd_join a
  generalize isJ a = j at hj
  unfold CCF at hc
  rw [enc_hd] at hc ⊢
  have fin : ∀ {b}, f = false → RunC w m (feed (turnL (flT x l pi) (.tup (.str (hd a) :: tlD a)) (flR x t0 (.bool b) one fixed none none) ⟨pi, [rs]⟩) (cD2 (false, k)) pi) (none, flR x t0 (.bool false) (some (.dat (.tup (.str (hd a) :: tlD a)))) (some (.dat (.bool false))) none none, ⟨pi, [rs ++ [.bool (j && true)]]⟩) := fun {b} _ => by
    cases j with
    | true => cases b <;> exact sA 2 (sb true (by kernel_rfl) hj (sr (.none, rs ++ [.bool true]) (by kernel_rfl) (app_ok (.bool true) hr) (fn (by kernel_rfl))))
    | false => cases b <;> exact sA 2 (sb false (by kernel_rfl) hj (sr (x := locM .append rs [.bool (sq (hd a) ("join" : Str))]) (.none, rs ++ [.bool false]) (by kernel_rfl) (by rw [hj]; exact app_ok (.bool false) hr) (fn (by kernel_rfl))))
  cases f with
  | false => cases b <;> exact st (by kernel_rfl) hc (fin rfl)
  | true => cases b with
    | true => exact st (by kernel_rfl) hc (sA 9 (fn (by kernel_rfl)))
    | false => cases j with
      | true => exact st (by kernel_rfl) hc (sA 2 (sb true (by kernel_rfl) hj (sr (.none, rs ++ [.bool false]) (by kernel_rfl) (app_ok (.bool false) hr) (fn (by kernel_rfl)))))
      | false => exact st (by kernel_rfl) hc (sA 2 (sb false (by kernel_rfl) hj (sr (x := locM .append rs [.bool (sq (hd a) ("join" : Str))]) (.none, rs ++ [.bool false]) (by kernel_rfl) (by rw [hj]; exact app_ok (.bool false) hr) (fn (by kernel_rfl)))))
theorem fl_go : ∀ {l : List T} (b : Bool) {rs : List D} {one fixed : Option V} {l0 : List D}, (∀ t ∈ l, CCF w pi m (enc t) (cnt t)) → rs.length + l.length ≤ 1000 →
    ∃ b' o1 o2, loopF (fun d ρ σ o => RunC w m (turnL (flT x l0 pi) d ρ σ) o) (encs l) (flR x t0 (.bool b) one fixed none none) ⟨pi, [rs]⟩ (none, flR x t0 (.bool b') o1 o2 none none, ⟨pi, [rs ++ (flags b l).map D.bool]⟩)
  | [], b, rs, one, fixed, l0, _, _ => ⟨b, one, fixed, by rw [flags, List.map_nil, List.append_nil]; rfl⟩
  | t :: r, b, rs, one, fixed, l0, hc, hl => by
    have hl : rs.length + (r.length + 1) ≤ 1000 := hl
    have h := fl_turn (w := w) (pi := pi) (m := m) (k := (cnt t).2) (x := x) (t0 := t0) (l := l0) (rs := rs) (b := b) (one := one) (fixed := fixed) (f := (cnt t).1) (hc t (.head _)) (by omega)
    have hr := fun x m => hc x (.tail _ m)
    unfold flL at h
    unfold flags
    cases q : (cnt t).1 && b with
    | true =>
      rw [q] at h
      obtain ⟨b', o1, o2, e⟩ := fl_go (cnt t).1 (rs := rs) (one := some (.dat (enc t))) (fixed := some (.dat (.bool (cnt t).1))) (l0 := l0) hr (by omega)
      exact ⟨b', o1, o2, _, _, h, e⟩
    | false =>
      rw [q] at h
      obtain ⟨b', o1, o2, e⟩ := fl_go (cnt t).1 (rs := rs ++ [.bool (isJ t && !(cnt t).1)]) (one := some (.dat (enc t))) (fixed := some (.dat (.bool (cnt t).1))) (l0 := l0) hr (by rw [List.length_append]; show rs.length + 1 + _ ≤ _; omega)
      refine ⟨b', o1, o2, _, _, h, ?_⟩
      show loopF _ _ _ _ (none, _, ⟨pi, [rs ++ D.bool (isJ t && !(cnt t).1) :: (flags (cnt t).1 r).map D.bool]⟩)
      rw [List.append_assoc] at e
      exact e
inductive UR : D → D → Prop
  | a {o : Nat} {r : List D} : o ≠ 19 → UR (.tup (nI o :: r)) (.tup (nI o :: r))
  | b {k y c : D} : UR (.tup [nI 19, k, y, nI 2, c]) y
  | c {k y c : D} : UR (.tup [nI 19, k, y, nI 4, c]) (.tup [nI 19, k, y, nI 4, c])
theorem pop_ok (rs : List D) (d : D) : locM .pop (rs ++ [d]) [] = some (d, rs) := by
  show (rs ++ [d]).getLast?.bind (fun d' => some (d', (rs ++ [d]).dropLast)) = _
  rw [List.getLast?_concat, List.dropLast_concat]; rfl
theorem fl_step {r : Rho} {q : St} {a0 a1 a2 a3 a5 y' z' y z b : D} {one fixed lf rt : Option V} {f : Bool} (hj : CF w m a_law_is_joining [.tup [a0, a1, a2, a3, .tup [y', z'], a5]] pi (.bool true, pi)) (hy : UR y' y) (hz : UR z' z)
    (hr : CF w m a_law_is_joining [z] pi (.bool f, pi)) : RunC w m (turnB (flW x l pi r q) (flR (.tup [a0, a1, a2, a3, .tup [y', z'], a5]) t0 b one fixed lf rt) ⟨pi, [rs ++ [.bool f]]⟩) (none, flR y t0 b one fixed (some (.dat y)) (some (.dat z)), ⟨pi, [rs]⟩) := by
  have pl := pop_ok rs (.bool f)
  have eqf : (!(f == f)) = false := by cases f <;> rfl
  refine st (by kernel_rfl) hj ?_
  cases hy with
  | a n1 =>
    refine sA 2 (sb false (by kernel_rfl) (n19 n1) ?_)
    cases hz with
    | a n2 => exact sA 1 (sb false (by kernel_rfl) (n19 n2) (st (by kernel_rfl) hr (sr (.bool f, rs) (by kernel_rfl) pl (sb false (by kernel_rfl) eqf (fn (by kernel_rfl))))))
    | _ => exact sA 40 (st (by kernel_rfl) hr (sr (.bool f, rs) (by kernel_rfl) pl (sb false (by kernel_rfl) eqf (fn (by kernel_rfl)))))
  | b => cases hz with
    | a n2 => exact sA 7 (sb false (by kernel_rfl) (n19 n2) (st (by kernel_rfl) hr (sr (.bool f, rs) (by kernel_rfl) pl (sb false (by kernel_rfl) eqf (fn (by kernel_rfl))))))
    | _ => exact sA 40 (st (by kernel_rfl) hr (sr (.bool f, rs) (by kernel_rfl) pl (sb false (by kernel_rfl) eqf (fn (by kernel_rfl)))))
  | c => cases hz with
    | a n2 => exact sA 6 (sb false (by kernel_rfl) (n19 n2) (st (by kernel_rfl) hr (sr (.bool f, rs) (by kernel_rfl) pl (sb false (by kernel_rfl) eqf (fn (by kernel_rfl))))))
    | _ => exact sA 40 (st (by kernel_rfl) hr (sr (.bool f, rs) (by kernel_rfl) pl (sb false (by kernel_rfl) eqf (fn (by kernel_rfl)))))
theorem ps_ur {k : Nat} {x : D} (h : PS k x) : UR x x ∧ UR (asO k x) x := by
  cases h with
  | s n => exact ⟨.a n, .b⟩
  | o n => exact ⟨.a n, .a n⟩
  | f n => exact ⟨.a n, .a n⟩
  | bx => exact ⟨.c, .c⟩
theorem isj_jn {i : Nat} {x y : D} (h : i = 10 ∨ i = 20) : CF w 1 a_law_is_joining [jnD i x y] pi (.bool true, pi) := by rcases h with rfl | rfl <;> exact ca (by kernel_rfl)
theorem joinE_ur {k1 k2 : Nat} {x y : D} (hx : PS k1 x) (hy : PS k2 y) : ∃ i x' y', joinE k1 x k2 y = jnD i x' y' ∧ (i = 10 ∨ i = 20) ∧ UR x' x ∧ UR y' y := by
  unfold joinE
  cases Nat.beq k1 13 && Nat.beq k2 13 with
  | true => exact ⟨10, x, y, rfl, .inl rfl, (ps_ur hx).1, (ps_ur hy).1⟩
  | false => exact ⟨20, _, _, rfl, .inr rfl, (ps_ur hx).2, (ps_ur hy).2⟩
theorem isj_E {k1 k2 : Nat} {x y : D} : CF w 1 a_law_is_joining [joinE k1 x k2 y] pi (.bool true, pi) := by
  unfold joinE
  cases Nat.beq k1 13 && Nat.beq k2 13 with
  | true => exact isj_jn (.inl rfl)
  | false => exact isj_jn (.inr rfl)
theorem isj_R : ∀ (l : List (Nat × D)) {x : D}, CF w 1 a_law_is_joining [x] pi (.bool true, pi) → CF w 1 a_law_is_joining [joinR x l] pi (.bool true, pi)
  | [], _, h => h
  | _ :: r, _, _ => isj_R r isj_E
theorem isj_L {l : List T} (h : 1 ≤ l.length) : CF w 1 a_law_is_joining [joinL (lowP l)] pi (.bool true, pi) := by
  cases l with
  | nil => exact absurd h (Nat.not_succ_le_zero _)
  | cons t r => cases r with
    | nil => exact isj_E
    | cons u r => exact isj_R _ isj_E
theorem part_isj {t : T} (h : OkS n t) : CF w 1 a_law_is_joining [boxE (kdT t) (lowD t)] pi (.bool (isJ t), pi) := by
  cases h with
  | loc h => exact lt8 (P := fun i => CF w 1 a_law_is_joining [boxE (kindN (i + 1)) (locD (i + 1))] pi (.bool false, pi)) h (ca (by kernel_rfl)) (ca (by kernel_rfl)) (ca (by kernel_rfl)) (ca (by kernel_rfl)) (ca (by kernel_rfl)) (ca (by kernel_rfl)) (ca (by kernel_rfl)) (ca (by kernel_rfl))
  | call h => rename_i o; cases o <;> exact lt4 (P := fun k => CF w 1 a_law_is_joining [callD _ k] pi (.bool false, pi)) h (ca (by kernel_rfl)) (ca (by kernel_rfl)) (ca (by kernel_rfl)) (ca (by kernel_rfl))
  | join _ l1 _ => exact isj_L l1
  | _ => exact ca (by kernel_rfl)
abbrev WLm (w : World) (pi : List Cell) (m : Nat) (x : D) (l : List D) (r : Rho) (q : St) : Nat → Rho → St → Out → Prop := loopW (fun ρ σ o => RunC w m (turnT (flW x l pi r q) ρ σ) o) fun ρ σ o => RunC w m (turnB (flW x l pi r q) ρ σ) o
theorem fl_test {r : Rho} {q : St} {e b : D} {one fixed lf rt : Option V} {v : Bool} (hv : (!decide (Int.ofNat rs.length ≤ 1)) = v) : RunC w m (turnT (flW x l pi r q) (flR e t0 b one fixed lf rt) ⟨pi, [rs]⟩) (some (.dat (.bool v)), [], ⟨pi, [rs]⟩) := by
  cases v <;> exact sb _ (by kernel_rfl) hv (fn (by kernel_rfl))
theorem wl_end {r : Rho} {q : St} {e b : D} {one fixed lf rt : Option V} (h : rs.length ≤ 1) : WLm w pi m x l r q (n + 1) (flR e t0 b one fixed lf rt) ⟨pi, [rs]⟩ (none, flR e t0 b one fixed lf rt, ⟨pi, [rs]⟩) :=
  .inl ⟨_, _, fl_test (ndf (a := 1) h), rfl⟩
theorem wl_step {r : Rho} {q : St} {k1 k2 : Nat} {y z b : D} {one fixed lf rt : Option V} {f : Bool} {o : Out} (hm : 1 ≤ m) (hy : PS k1 y) (hz : PS k2 z) (hf : CF w 1 a_law_is_joining [z] pi (.bool f, pi)) (h1 : 1 ≤ rs.length)
    (h : WLm w pi m x l r q n (flR y t0 b one fixed (some (.dat y)) (some (.dat z))) ⟨pi, [rs]⟩ o) : WLm w pi m x l r q (n + 1) (flR (joinE k1 y k2 z) t0 b one fixed lf rt) ⟨pi, [rs ++ [.bool f]]⟩ o := by
  obtain ⟨i, y', z', e, hi, u1, u2⟩ := joinE_ur hy hz
  rw [e]
  exact .inr ⟨_, _, _, _, fl_test (ndt (a := 1) (by rw [List.length_append]; exact Nat.succ_le_succ h1)), fl_step (up (isj_jn hi) hm) u1 u2 (up hf hm), h⟩
abbrev OP (w : World) (pi : List Cell) (t : T) : Prop := PS (bk (kdT t)) (boxE (kdT t) (lowD t)) ∧ CF w 1 a_law_is_joining [boxE (kdT t) (lowD t)] pi (.bool (isJ t), pi)
theorem wl_all (hm : 1 ≤ m) {ps : List T} (h : ∀ t ∈ ps, OP w pi t) (l1 : 1 ≤ ps.length) (l4 : ps.length ≤ 4) (b : D) (one fixed : Option V) (r : Rho) (q : St) :
    ∃ e lf rt rs, WLm w pi m x l r q (n + 4) (flR (joinL (lowP ps)) t0 b one fixed none none) ⟨pi, [(ps.map isJ).map D.bool]⟩ (none, flR e t0 b one fixed lf rt, ⟨pi, [rs]⟩) := by
  refine pcs4 (P := OP w pi) (Q := fun ps => ∃ e lf rt rs, WLm w pi m x l r q (n + 4) (flR (joinL (lowP ps)) t0 b one fixed none none) ⟨pi, [(ps.map isJ).map D.bool]⟩ (none, flR e t0 b one fixed lf rt, ⟨pi, [rs]⟩)) h l1 l4 ?_ ?_ ?_ ?_
  · exact fun {a} _ => ⟨_, _, _, _, wl_end (n := n + 3) (rs := [.bool (isJ a)]) (Nat.le_refl _)⟩
  · exact fun {a c} pa pc => ⟨_, _, _, _, wl_step (n := n + 3) (rs := [.bool (isJ a)]) hm pa.1 pc.1 pc.2 (Nat.le_refl _) (wl_end (n := n + 2) (Nat.le_refl _))⟩
  · exact fun {a c d} pa pc pd => ⟨_, _, _, _, wl_step (n := n + 3) (rs := [.bool (isJ a), .bool (isJ c)]) hm (joinE_ps _ _ _ _) pd.1 pd.2 (Nat.le_succ 1) (wl_step (n := n + 2) (rs := [.bool (isJ a)]) hm pa.1 pc.1 pc.2 (Nat.le_refl _) (wl_end (n := n + 1) (Nat.le_refl _)))⟩
  · exact fun {a c d f} pa pc pd pf => ⟨_, _, _, _, wl_step (n := n + 3) (rs := [.bool (isJ a), .bool (isJ c), .bool (isJ d)]) hm (joinE_ps _ _ _ _) pf.1 pf.2 (Nat.le_add_left 1 2) (wl_step (n := n + 2) (rs := [.bool (isJ a), .bool (isJ c)]) hm (joinE_ps _ _ _ _) pd.1 pd.2 (Nat.le_succ 1) (wl_step (n := n + 1) (rs := [.bool (isJ a)]) hm pa.1 pc.1 pc.2 (Nat.le_refl _) (wl_end (n := n) (Nat.le_refl _))))⟩
theorem fl_wl (r : Rho) (q : St) : wls (flW x l pi r q) = some (59, r, q) := by kernel_rfl
theorem left_ok {l : List T} (h : OkT n (.join l)) (hp : pcs l ≤ 28) (hm : n ≤ m) : CF w (m + 1) a_law_from_left [lowD (foldT (.join l)), enc (.join l)] pi (.bool true, pi) := by
  have os := okS_of h (show pcs l + 1 ≤ 40 from Nat.le_trans (Nat.succ_le_succ hp) (by decide))
  cases h with | @join n _ o l1 l4 =>
  have hm1 : 1 ≤ m := Nat.le_trans (Nat.le_add_left 1 n) hm
  obtain ⟨b', o1, o2, e⟩ := fl_go (w := w) (pi := pi) (m := m) (x := lowD (foldT (.join l))) (t0 := enc (.join l)) (l := l) (rs := []) (one := none) (fixed := none) (l0 := encs l) false (fun t mt => up (count_ok (o t mt)) (Nat.le_trans (Nat.le_succ n) hm)) (by rw [List.length_nil, Nat.zero_add]; exact Nat.le_trans l4 (by decide))
  rw [List.nil_append] at e
  have fm := flags_mg none o
  rw [show (pend none).map (fun _ => false) ++ flags (none : Option Str).isSome l = flags false l from rfl] at fm
  have key : ∃ e lf rt rs, WLm w pi m (lowD (foldT (.join l))) (encs l) (flR (lowD (foldT (.join l))) (enc (.join l)) (.bool b') o1 o2 none none) ⟨pi, [(flags false l).map D.bool]⟩ (55 + 4) (flR (lowD (foldT (.join l))) (enc (.join l)) (.bool b') o1 o2 none none) ⟨pi, [(flags false l).map D.bool]⟩ (none, flR e (enc (.join l)) (.bool b') o1 o2 lf rt, ⟨pi, [rs]⟩) := by
    rw [← fm]
    have os : OkS (n + 1) (mkJ (mg none (foldTs l))) := os
    show ∃ e lf rt rs, WLm w pi m (lowD (mkJ (mg none (foldTs l)))) (encs l) (flR (lowD (mkJ (mg none (foldTs l)))) (enc (.join l)) (.bool b') o1 o2 none none) ⟨pi, [((mg none (foldTs l)).map isJ).map D.bool]⟩ (55 + 4) (flR (lowD (mkJ (mg none (foldTs l)))) (enc (.join l)) (.bool b') o1 o2 none none) ⟨pi, [((mg none (foldTs l)).map isJ).map D.bool]⟩ (none, flR e (enc (.join l)) (.bool b') o1 o2 lf rt, ⟨pi, [rs]⟩)
    generalize mg none (foldTs l) = L at os
    unfold mkJ at os ⊢
    cases q : isS1 L with
    | some s => rw [isS1_is q]; exact ⟨_, _, _, _, wl_end (n := 58) (Nat.le_refl _)⟩
    | none =>
      rw [q] at os
      cases os with | join o' p1 p4 =>
      exact wl_all (n := 55) hm1 (fun t mt => ⟨box_ps (o' t mt), part_isj (o' t mt)⟩) p1 p4 _ _ _ _ _
  obtain ⟨e', lf, rt, rs, wl⟩ := key
  exact ofRuns (u := false) (tt := true) (pm := true) (sA 1 (sl_ fl_loop e (sw (fl_wl _ _) wl (fn (by kernel_rfl)))))
end
end Mine
end
noncomputable section
namespace Mine
open PySem PySem.W
noncomputable def wdV (r : Nat) : VV := txtV (wd5 r)
noncomputable def v2V : Nat → VV
  | 0 => .nul
  | 1 => .str ⟨⟨[nat_lit 103]⟩⟩
  | 2 => .prim 7 7
  | _ => .prim 1 1
noncomputable def v6V : Nat → VV
  | 0 => .nul
  | 1 => .str ⟨⟨[nat_lit 104]⟩⟩
  | _ => .prim 7 (-3)
noncomputable def v8V : Nat → VV
  | 0 => .nul
  | _ => .prim 7 9
theorem lt2 {P : Nat → Prop} {r : Nat} (h : r < 2) (p0 : P 0) (p1 : P 1) : P r := ltS (P := fun r => P (r + 0)) h p0 fun _ h => ltS (P := fun r => P (r + 1)) h p1 fun _ h => lt0 (P := fun r => P (r + 2)) h
theorem nle {a b : Nat} (h : Nat.ble a b = true) : a ≤ b := Nat.le_of_ble_eq_true h
section
variable {w : World} {sc : List Int} {q : Nat} {b : Int}
noncomputable def vr (ε : Va) (v : VV) (k : Nat) : List Cell := [.dct (vks.take k) ((vds ε v).take k)]
theorem vars_ok : ∃ ε v, OkVa ε ∧ isS v = true ∧ sl v ≤ 12 ∧ CF w 2 900 [.cell 0] (dC [] sc q b) (.cell 1, dC (vr ε v 8) sc (q + 8) b) := by
  obtain ⟨r1, h1, t1⟩ := take_any w sc q b 4
  obtain ⟨r2, h2, t2⟩ := take_any w sc (q + 1) b 3
  obtain ⟨r3, h3, t3⟩ := take_any w sc (q + 2) b 4
  obtain ⟨r4, h4, t4⟩ := take_any w sc (q + 3) b 3
  obtain ⟨r5, h5, t5⟩ := take_any w sc (q + 4) b 1
  obtain ⟨r6, h6, t6⟩ := take_any w sc (q + 5) b 2
  obtain ⟨r7, h7, t7⟩ := take_any w sc (q + 6) b 2
  obtain ⟨r8, h8, t8⟩ := take_any w sc (q + 7) b 1
  have i1 : item (.dat gWORDS) (nI r1) ⟨[], []⟩ = some (wdV r1).d := lt5 (P := fun r => item (.dat gWORDS) (nI r) ⟨[], []⟩ = some (wdV r).d) h1 (by kernel_rfl) (by kernel_rfl) (by kernel_rfl) (by kernel_rfl) (by kernel_rfl)
  have i2 : item (.dat (.tup [.none, .str ⟨⟨[nat_lit 103]⟩⟩, .tup [nI 7, nI 7], .tup [nI 1, nI 1]])) (nI r2) ⟨[], []⟩ = some (v2V r2).d := lt4 (P := fun r => item (.dat (.tup [.none, .str ⟨⟨[nat_lit 103]⟩⟩, .tup [nI 7, nI 7], .tup [nI 1, nI 1]])) (nI r) ⟨[], []⟩ = some (v2V r).d) h2 (by kernel_rfl) (by kernel_rfl) (by kernel_rfl) (by kernel_rfl)
  have i6 : item (.dat (.tup [.none, .str ⟨⟨[nat_lit 104]⟩⟩, .tup [nI 7, .int (-3)]])) (nI r6) ⟨[], []⟩ = some (v6V r6).d := lt3 (P := fun r => item (.dat (.tup [.none, .str ⟨⟨[nat_lit 104]⟩⟩, .tup [nI 7, .int (-3)]])) (nI r) ⟨[], []⟩ = some (v6V r).d) h6 (by kernel_rfl) (by kernel_rfl) (by kernel_rfl)
  have i8 : item (.dat (.tup [.none, .tup [nI 7, nI 9]])) (nI r8) ⟨[], []⟩ = some (v8V r8).d := lt2 (P := fun r => item (.dat (.tup [.none, .tup [nI 7, nI 9]])) (nI r) ⟨[], []⟩ = some (v8V r).d) h8 (by kernel_rfl) (by kernel_rfl)
  have k1 := lt5 (P := fun r => isS (wdV r) = true ∧ sl (wdV r) ≤ 12) h1 ⟨rfl, Nat.le_of_ble_eq_true (by kernel_rfl)⟩ ⟨rfl, Nat.le_of_ble_eq_true (by kernel_rfl)⟩ ⟨rfl, Nat.le_of_ble_eq_true (by kernel_rfl)⟩ ⟨rfl, Nat.le_of_ble_eq_true (by kernel_rfl)⟩ ⟨rfl, Nat.le_of_ble_eq_true (by kernel_rfl)⟩
  refine ⟨⟨v2V r2, .ofNat r3 - 2, 65 + r4, r5, v6V r6, r7, v8V r8⟩, wdV r1, ⟨?_, ?_, ?_, h5, ?_, ?_, ?_⟩, k1.1, k1.2, ?_⟩
  · exact lt4 (P := fun r => OkV (v2V r) ∧ sl (v2V r) ≤ 12) h2 ⟨.nul, nle (by kernel_rfl)⟩ ⟨.str, nle (by kernel_rfl)⟩ ⟨.i7 (smL 12 (by decide)), nle (by kernel_rfl)⟩ ⟨.b1, nle (by kernel_rfl)⟩
  · exact lt5 (P := fun r => sm (.ofNat r - 2)) h3 (smL 3 (by decide)) (smL 4 (by decide)) (smL 5 (by decide)) (smL 6 (by decide)) (smL 7 (by decide))
  · exact Nat.add_lt_add_left (Nat.lt_trans h4 (by decide : 4 < 63)) 65
  · exact lt3 (P := fun r => OkV (v6V r) ∧ sl (v6V r) ≤ 12) h6 ⟨.nul, nle (by kernel_rfl)⟩ ⟨.str, nle (by kernel_rfl)⟩ ⟨.i7 (smL 2 (by decide)), nle (by kernel_rfl)⟩
  · exact lt3 (P := fun r => sm (.ofNat r)) h7 (smL 5 (by decide)) (smL 6 (by decide)) (smL 7 (by decide))
  · exact lt2 (P := fun r => OkV (v8V r) ∧ sl (v8V r) ≤ 12) h8 ⟨.nul, nle (by kernel_rfl)⟩ ⟨.i7 (smL 14 (by decide)), nle (by kernel_rfl)⟩
  · refine ofRuns (u := true) (tt := false) (pm := true) ?_
    refine st (by kernel_rfl) (t1 (vr ⟨.nul, 0, 0, 0, .nul, 0, .nul⟩ .nul 0)) (sp (wdV r1).d (by kernel_rfl) i1 ?_)
    refine st (by kernel_rfl) (t2 (vr ⟨.nul, 0, 0, 0, .nul, 0, .nul⟩ (wdV r1) 1)) (sp (v2V r2).d (by kernel_rfl) i2 ?_)
    refine st (by kernel_rfl) (t3 (vr ⟨v2V r2, 0, 0, 0, .nul, 0, .nul⟩ (wdV r1) 2)) ?_
    refine st (by kernel_rfl) (t4 (vr ⟨v2V r2, .ofNat r3 - 2, 0, 0, .nul, 0, .nul⟩ (wdV r1) 3)) ?_
    refine st (by kernel_rfl) (t5 (vr ⟨v2V r2, .ofNat r3 - 2, 65 + r4, 0, .nul, 0, .nul⟩ (wdV r1) 4)) ?_
    refine st (by kernel_rfl) (t6 (vr ⟨v2V r2, .ofNat r3 - 2, 65 + r4, r5, .nul, 0, .nul⟩ (wdV r1) 5)) (sp (v6V r6).d (by kernel_rfl) i6 ?_)
    refine st (by kernel_rfl) (t7 (vr ⟨v2V r2, .ofNat r3 - 2, 65 + r4, r5, v6V r6, 0, .nul⟩ (wdV r1) 6)) ?_
    refine st (by kernel_rfl) (t8 (vr ⟨v2V r2, .ofNat r3 - 2, 65 + r4, r5, v6V r6, r7, .nul⟩ (wdV r1) 7)) (sp (v8V r8).d (by kernel_rfl) i8 (fn (by kernel_rfl)))
end
end Mine
end
noncomputable section
namespace Mine
open PySem PySem.W
noncomputable def Rf (n : Nat) (d : D) : Prop := eqD n d d = some true
theorem eqs_self {n : Nat} : ∀ {l : List D}, (∀ d ∈ l, Rf n d) → eqs (eqD n) l l = some true
  | [], _ => rfl
  | d :: l, h => by
    have h1 : eqD n d d = some true := h d (.head _)
    show ((eqD n d d).bind fun p => (eqs (eqD n) l l).bind fun q => some (p && q)) = some true
    rw [h1, eqs_self fun d m => h d (.tail _ m)]
    rfl
theorem rf_i {n : Nat} (i : Int) : Rf (n + 1) (.int i) := congrArg some (decide_eq_true rfl)
theorem rf_s {n : Nat} (s : Str) : Rf (n + 1) (.str s) := congrArg some (sq_iff.mpr rfl)
theorem rf_t {n : Nat} {l : List D} (h : ∀ d ∈ l, Rf n d) : Rf (n + 1) (.tup l) := eqs_self h
theorem rf_2 {n : Nat} {a b : D} (ha : Rf n a) (hb : Rf n b) : Rf (n + 1) (.tup [a, b]) := rf_t fun d m => by
  cases m with
  | head => exact ha
  | tail _ m => cases m with
    | head => exact hb
    | tail _ m => cases m
theorem rf_v {n : Nat} (v : VV) : Rf (n + 2) v.d := by
  cases v with
  | nul => rfl
  | str s => exact rf_s s
  | prim k i => exact rf_2 (rf_i _) (rf_i i)
theorem rf_vds {ε : Va} {v : VV} : eqs (eqD 6) (vds ε v) (vds ε v) = some true := by
  refine eqs_self fun d m => ?_
  have c : ∀ {k : Nat} {x : D}, Rf 5 x → Rf 6 (.tup [nI k, x]) := fun h => rf_2 (rf_i _) h
  repeat' (first | exact (List.not_mem_nil m).elim | (rcases List.mem_cons.mp m with rfl | m))
  · exact c (rf_v v)
  · exact c (rf_v _)
  · exact c (rf_i _)
  · exact c (rf_i _)
  · exact c (rf_i _)
  · exact c (rf_v _)
  · exact c (rf_2 (rf_i _) (rf_i _))
  · exact c (rf_v _)
abbrev RfL (s : SS1) : Prop := ∀ d ∈ s.2, Rf 7 d
theorem rfl_app {s : SS1} {v : VV} {d : D} (h : RfL s) (hd : Rf 7 d) : RfL (v, s.2 ++ [d]) := fun x m => (List.mem_append.mp m).elim (h x) fun m => by
  cases m with
  | head => exact hd
  | tail _ m => cases m
theorem means_rf {ε : Va} : ∀ {l : List T}, (∀ t ∈ l, ∀ s, RfL s → RfL (mean ε t s).2) → ∀ s, RfL s → RfL (means ε l s).2
  | [], _, _, h => h
  | t :: r, f, s, h => means_rf (fun x m => f x (.tail _ m)) _ (f t (.head _) s h)
theorem mean_rf {ε : Va} {n : Nat} {t : T} (ok : OkT n t) : ∀ s, RfL s → RfL (mean ε t s).2 := by
  induction ok with
  | set _ _ ih => exact fun s h => rfl_app (ih s h) (rf_2 (rf_s _) (rf_v _))
  | call => exact fun s h => rfl_app h (rf_t fun d m => by
      rcases List.mem_cons.mp m with rfl | m
      · exact rf_s _
      · rcases List.mem_cons.mp m with rfl | m
        · exact rf_i _
        · cases m with
          | head => exact rf_i _
          | tail _ m => cases m)
  | cond _ _ _ _ _ iha ihb =>
    rename_i c a b _ _ _ _ _
    intro s h
    show RfL (match tst ε c with | true => mean ε a s | false => mean ε b s).2
    split
    · exact iha s h
    · exact ihb s h
  | deleg => exact fun s h => rfl_app h (rf_2 (rf_s _) (rf_v _))
  | join _ _ _ ih => exact fun s h => means_rf ih s h
  | _ => exact fun s h => h
theorem joinE_8 (k1 : Nat) (x : D) (k2 : Nat) (y : D) : ∃ r, joinE k1 x k2 y = .tup (nI 8 :: nI 13 :: r) := by
  unfold joinE
  split <;> exact ⟨_, rfl⟩
theorem joinR_8 : ∀ (l : List (Nat × D)) {x : D}, (∃ r, x = .tup (nI 8 :: nI 13 :: r)) → ∃ r, joinR x l = .tup (nI 8 :: nI 13 :: r)
  | [], _, h => h
  | p :: r, x, _ => joinR_8 r (x := joinE 13 x p.1 p.2) (joinE_8 13 x p.1 p.2)
noncomputable def hdC : Bool → Nat
  | true => 1
  | false => 8
theorem low_head {n : Nat} {l : List T} (h : OkT n (.join l)) : ∃ r, lowD (foldT (.join l)) = .tup (nI (hdC (fx (foldT (.join l))).isSome) :: nI 13 :: r) := by
  cases h with | join o l1 l4 =>
  have g := (mg_le (foldTs l) none).2 (by rw [foldTs_length]; exact Nat.le_trans l1 (Nat.le_add_left _ _))
  show ∃ r, lowD (mkJ (mg none (foldTs l))) = .tup (nI (hdC (fx (mkJ (mg none (foldTs l)))).isSome) :: nI 13 :: r)
  generalize mg none (foldTs l) = L at g
  unfold mkJ
  cases isS1 L with
  | some s => exact ⟨_, rfl⟩
  | none =>
    cases L with
    | nil => exact absurd g (Nat.not_succ_le_zero _)
    | cons a L => cases L with
      | nil => exact joinE_8 _ _ _ _
      | cons b L => exact joinR_8 _ (joinE_8 _ _ _ _)
end Mine
end
noncomputable section
namespace Mine
open PySem PySem.W
noncomputable def lsc : Scope := (fnR (H.st 173)).scope
noncomputable def lbd : List Stmt := (fnR (H.st 173)).body
noncomputable def lT (i : Nat) (ρ : Rho) (σ : St) : Tr := cB (gG true true true true) 60 lsc ((lbd.take 19).drop i) ρ σ .done
noncomputable def lR (ds : List D) : Rho := rho0 lsc.names (lsc.names.map (·.1)) ds
theorem law_4 {x t : D} {c0 : Cell} {ds : List D} : advC 9 10 (lT 4 (lR [x, .cell 0, t, .cell 1]) ⟨[c0, .dct vks ds], []⟩) = lT 12 (lR [x, .cell 0, t, .cell 1, .cell 14, .cell 3, .cell 23, .cell 25]) ⟨PL c0 (.dct vks ds), []⟩ := by kernel_rfl
theorem sCr {w : World} {m j n : Nat} {R : Out} {t t' : Tr} (h5 : j ≤ m) (e : advC j n t = t') (h : RunC w m t' R) : RunC w m t R := sC h5 n (re e h)
section
variable {w : World} {x t tb tf e : D} {c0 : Cell} {ε : Va} {v1 : VV} {sv : SS1} {S : Str} {R : Out} {f : Bool} {jn : Nat} {r : List D}
noncomputable abbrev lP (c0 : Cell) (ε : Va) (v1 : VV) (sv s : SS1) : List Cell := PR c0 (.dct vks (vds ε v1)) (.dct vks (vds ε sv.1)) (.lst sv.2) ε s
noncomputable abbrev lQ (x t e : D) (S : Str) : Rho := lR [x, .cell 0, t, .cell 1, .cell 14, .cell 3, .cell 23, .cell 25, e, .cell 34, .str S, .cell 37, .str S]
theorem law_12 (hb : CF w 64 a_law_bound [.cell 23, t] (PL c0 (.dct vks (vds ε v1))) (tb, PL c0 (.dct vks (vds ε v1)))) (hf : CF w 64 afold_all [tb] (PL c0 (.dct vks (vds ε v1))) (tf, PL c0 (.dct vks (vds ε v1)))) (hx : CF w 64 aLow_expr [.cell 25, tf] (PL c0 (.dct vks (vds ε v1))) (e, PL c0 (.dct vks (vds ε v1))))
    (h : RunC w 64 (lT 13 (lR [x, .cell 0, t, .cell 1, .cell 14, .cell 3, .cell 23, .cell 25, e]) ⟨PL c0 (.dct vks (vds ε v1)), []⟩) R) : RunC w 64 (lT 12 (lR [x, .cell 0, t, .cell 1, .cell 14, .cell 3, .cell 23, .cell 25]) ⟨PL c0 (.dct vks (vds ε v1)), []⟩) R :=
  st (by kernel_rfl) hb (st (by kernel_rfl) hf (st (by kernel_rfl) hx (re (by kernel_rfl) h)))
theorem law_13 (hm : CF w 64 a_law_mean [.cell 34, t] (PM c0 (.dct vks (vds ε v1)) ε (v1, [])) (.str S, PM c0 (.dct vks (vds ε v1)) ε sv))
    (h : RunC w 64 (lT 15 (lR [x, .cell 0, t, .cell 1, .cell 14, .cell 3, .cell 23, .cell 25, e, .cell 34, .str S]) ⟨PM c0 (.dct vks (vds ε v1)) ε sv, []⟩) R) : RunC w 64 (lT 13 (lR [x, .cell 0, t, .cell 1, .cell 14, .cell 3, .cell 23, .cell 25, e]) ⟨PL c0 (.dct vks (vds ε v1)), []⟩) R :=
  st (by kernel_rfl) hm (re (by kernel_rfl) h)
theorem law_15 (rf : RfL sv) (hr : CF w 64 a_law_run [.cell 37, e] (lP c0 ε v1 sv (v1, [])) (.str S, lP c0 ε v1 sv sv)) (he : e = .tup (nI (hdC f) :: nI 13 :: r)) (hj : CF w 64 a_law_joinings [e] (lP c0 ε v1 sv sv) (nI jn, lP c0 ε v1 sv sv)) (hc : CF w 64 a_law_count [t] (lP c0 ε v1 sv sv) (cD2 (f, jn), lP c0 ε v1 sv sv)) (hl : CF w 64 a_law_from_left [e, t] (lP c0 ε v1 sv sv) (.bool true, lP c0 ε v1 sv sv)) :
    RunC w 64 (lT 15 (lR [x, .cell 0, t, .cell 1, .cell 14, .cell 3, .cell 23, .cell 25, e, .cell 34, .str S]) ⟨PM c0 (.dct vks (vds ε v1)) ε sv, []⟩) (none, lQ x t e S, ⟨lP c0 ε v1 sv sv, []⟩) := by
  subst he
  refine sA 1 (st (by kernel_rfl) hr ?_)
  refine sA 1 (sb false (by kernel_rfl) (show (!sq S S) = false by rw [sq_iff.mpr rfl]; rfl) ?_)
  refine sA 6 (sp (x := ((eqs (eqD 7) sv.2 sv.2).bind fun r => some (!r)).map D.bool) (.bool false) (by kernel_rfl) (by rw [eqs_self rf]; rfl) ?_)
  refine sA 3 (sp (x := ((eqs (eqD 6) (vds ε sv.1) (vds ε sv.1)).bind fun r => onO r (some false)).map D.bool) (.bool false) (by kernel_rfl) (by rw [rf_vds]; rfl) ?_)
  refine sA 1 (st (by kernel_rfl) hj (st (by kernel_rfl) hc ?_))
  refine sA 2 (sb false (by kernel_rfl) (show (!decide (Int.ofNat jn = Int.ofNat jn)) = false by rw [decide_eq_true rfl]; rfl) ?_)
  refine sA 2 (st (by kernel_rfl) hc ?_)
  refine sA 2 (sb false (by kernel_rfl) (show (!(decide (Int.ofNat (hdC f) = Int.ofNat 1) == f)) = false by cases f <;> rfl) ?_)
  exact st (by kernel_rfl) hl (fn (by kernel_rfl))
end
noncomputable def bdg (n : Nat) : Int := if 12 < 5 + Int.fdiv (.ofNat n) 4 then 12 else 5 + Int.fdiv (.ofNat n) 4
theorem bdg_le (n : Nat) : 0 ≤ bdg n ∧ bdg n ≤ 12 := by
  have h : 0 ≤ Int.fdiv (.ofNat n) 4 := Int.fdiv_nonneg (Int.natCast_nonneg n) (by decide)
  unfold bdg
  split
  · exact ⟨by decide, by decide⟩
  · rename_i q
    exact ⟨Int.add_nonneg (by decide) h, Int.not_lt.mp q⟩
theorem law_ok (w : World) (sc0 : List Int) : ∃ x t e g c0 c1 tl, RunC w 64 (lT 0 (lR [.lst (sc0.map D.int)]) ⟨[], []⟩) (none, lR [x, .cell 0, t, .cell 1, .cell 14, .cell 3, .cell 23, .cell 25, e, .cell 34, g, .cell 37, g], ⟨PL c0 c1 ++ tl, []⟩) := by
  generalize hsc : sc0.take 40 = sc
  obtain ⟨h0, h12⟩ := bdg_le (sc.map D.int).length
  obtain ⟨l, q, b, ht, ok, hp⟩ := tree_ok (w := w) (q := 0) sc h0
  have hp : pcs l ≤ 28 := Int.ofNat_le.mp (Int.le_trans hp (Int.add_le_add_right h12 16))
  obtain ⟨ε, v1, hε, hs, hl, hv⟩ := vars_ok (w := w) (sc := sc) (q := q) (b := b)
  have mb := tree_MB ok hp hs hl
  have os := okS_of ok (show pcs l + 1 ≤ 40 from Nat.le_trans (Nat.succ_le_succ hp) (by decide))
  have lh := low_head ok
  have rf := mean_rf (ε := ε) ok (v1, []) fun _ m => by cases m
  have k13 : kdT (foldT (.join l)) = 13 := kd_X (isX_fold rfl)
  generalize hc0 : (Cell.lst [.lst (sc.map D.int), nI (q + 8), .int b]) = c0
  have hm := mean_ok (w := w) (c0 := c0) (c1 := .dct vks (vds ε v1)) hε (okS_id ok) (v1, []) 100 mb
  have hr := run_ok (Z := ⟨w, c0, .dct vks (vds ε v1), .dct vks (vds ε (mean ε (.join l) (v1, [])).2.1), .lst (mean ε (.join l) (v1, [])).2.2, ε⟩) hε os (v1, []) 100 (mb.fold ok)
  unfold RCF at hr
  dsimp only at hr
  rw [mean_fold ok, k13] at hr
  obtain ⟨S, sv, hS⟩ : ∃ S sv, mean ε (.join l) (v1, []) = (.str S, sv) := ⟨_, _, rfl⟩
  unfold MCF at hm
  rw [hS] at hm hr rf
  have hb : BCF w c0 (.dct vks (vds ε v1)) 5 (.join l) := bound_ok ok
  have hf : FCF w (PL c0 (.dct vks (vds ε v1))) 5 (.join l) := fold_ok ok (Nat.le_trans (Nat.succ_le_succ hp) (by decide))
  have hx : CF w 24 aLow_expr [.cell 25, bnd (foldT (.join l))] (PL c0 (.dct vks (vds ε v1))) (lowD (foldT (.join l)), PL c0 (.dct vks (vds ε v1))) := by
    rw [bnd_tup]
    have := low_ok (w := w) (c0 := c0) (c1 := .dct vks (vds ε v1)) os
    unfold LCF at this
    rw [bnd_tup] at this
    exact ofR (m := 23) (st (by kernel_rfl) this (fn (by kernel_rfl)))
  have ⟨n1, n2, _⟩ := cnt_ok ok
  have hc := count_ok (w := w) (pi := lP c0 ε v1 sv sv) ok
  unfold CCF at hc
  rw [show cnt (.join l) = ((fx (foldT (.join l))).isSome, jnT (foldT (.join l))) from Prod.ext n1.symm n2.symm] at hc
  obtain ⟨r, hr8⟩ := lh
  refine ⟨.lst (sc.map D.int), enc (.join l), lowD (foldT (.join l)), .str S, c0, .dct vks (vds ε v1), [.dct [.str sVars, .str sLog] [.cell 35, .cell 36], .dct vks (vds ε sv.1), .lst sv.2, .dct [.str sVars, .str sLog, .str sWrong, .str sAction] [.cell 38, .cell 39, .bool false, nI 16], .dct vks (vds ε sv.1), .lst sv.2], ?_⟩
  refine sp (x := some (.lst ((sc0.map D.int).take 40))) (.lst (sc.map D.int)) (by kernel_rfl) (by rw [← hsc, List.map_take]) (st (by kernel_rfl) (up ht (by decide)) (st (by kernel_rfl) (up hv (by decide)) ?_))
  refine re (t' := lT 4 (lR [.lst (sc.map D.int), .cell 0, enc (.join l), .cell 1]) ⟨[c0, .dct vks (vds ε v1)], []⟩) (by rw [← hc0]; kernel_rfl) ?_
  refine sCr (by decide) law_4 (law_12 (up hb (by decide)) (up hf (by decide)) (up hx (by decide)) (law_13 (up hm (by decide)) ?_))
  exact law_15 rf (up hr (by decide)) hr8 (up (jn_ok (w := w) os _) (by decide)) (up hc (by decide)) (up (left_ok (w := w) (m := 5) ok hp (Nat.le_refl 5)) (by decide))
end Mine
end
noncomputable section
namespace Mine
open PySem PySem.W PyProof.Rows PySem.Calls PySem.SeqAt Builtin Builtin.ObjectAttr
open Sem (wp)
section
variable {prog : Program} {w : World} {A : Around} {E : Value → Shared → Prop} {s : Shared} {K : Frag} {C x : Addr}
theorem osa_exc {R : Result → Shared → Prop} {ox : Obj} {od : Option Obj} {name : Str} {tk : Tok} {v : Value} {cd : ClassData} (X : K.In s.heap) (I : InstAt s.heap x ox C od) (hc : clsIn K C = some cd) (ho : cd.mro.contains (.type "object") = true)
    (hp : refuseLoop (.ref x) "__setattr__" cd.mro = pure ()) (ht : findIn K (.ref C) name = some none)
    (h : ∀ b, wpAny (model prog w) A.in1 (storeInOwnDict (.ref x) (.ref C) (.str name tk) name v b)
      (fun fin s' => match fin with | .done f => R (.ok f) s' | .again c' => c'.quiet = true ∧ codeAny (model prog w) A c' R s') (fun e s' => R (.error e) s') s) :
    codeAny (model prog w) A (.call (.builtin "object.__setattr__") ⟨[.ref x, .str name tk, v], []⟩) R s := by
  have SF := PySem.F.store_object
  have ne : cd.mro.isEmpty = false := by cases q : cd.mro with | nil => rw [q] at ho; cases ho | cons _ _ => rfl
  have sub : Looks (model prog w) s.heap (isInstance (.ref x) (.type "object")) true := I.type.andThen (looks_mroIn X (by unfold mroIn; rw [hc, Option.bind_some, if_neg (by rw [ne]; decide), ho]))
  refine codeAny_call_builtin SF.slot.plain SF.entry (@check_slot (model prog w) _ _ s "object.__setattr__" "object" "__setattr__" (.ref x) [.str name tk, v] [] _ SF.kind SF.split sub (SF.args (.ref x) (.str name tk) v) ?_)
  have hm : Looks (model prog w) s.heap (mroOf (.ref C)) cd.mro := (looks_clsIn X hc).andThen .now
  have L3 : Looks (model prog w) s.heap (storeTaker? none) none := .now
  rw [osa_eq, refuse_eq]
  refine wpAny_bind (wpAny_bind (I.type.here (wpAny_bind (hm.here ?_))))
  rw [hp]
  refine wpAny_pure (wpAny_bind (I.type.here (wpAny_bind ((looks_findIn X ht).here (wpAny_bind (L3.here ?_))))))
  exact h _
theorem exc_set1 {ox : Obj} {name : Str} {v : Value} {cd : ClassData} {vs : Array Value} {Q : Unit → Shared → Prop} (X : K.In s.heap) (I : InstAt s.heap x ox C none) (hd : ox.dict = none) (hv : ox.data = .fields vs) (hc : clsIn K C = some cd) (hh : cd.hasDict = true) (ho : cd.mro.contains (.type "object") = true)
    (hp : refuseLoop (.ref x) "__setattr__" cd.mro = pure ()) (hs : findIn K (.ref C) "__setattr__" = some (some (.builtin "object.__setattr__"))) (ht : findIn K (.ref C) name = some none)
    (h : ∀ h' dx es n' tk, (∀ b o, b ≠ x → s.heap.get? b = some o → h'.get? b = some o) → s.heap.get? dx = none → h'.get? x = some { ox with dict := some dx } → h'.get? dx = some (dictOf es n') → (∀ y, y ≠ name → getL y es = some none) → es.length ≤ 1 → Q () { s with heap := h', toks := tk }) :
    wpAny (model prog w) A (PySem.setAttr (.ref x) name v) Q E s := by
  refine set_plain X I hs (osa_exc (s := { s with toks := s.toks + 1 }) X I hc ho hp ht fun b => ?_)
  obtain ⟨hx, hcl, hn, -⟩ := I
  obtain ⟨oc, odi, oda, osl⟩ := ox
  dsimp only at hcl hd hv
  subst hcl hd hv
  have hxs : x ≠ s.heap.objs.size := Nat.ne_of_lt (Heap.lt_size hx)
  refine wpAny_bind (wpAny_pure (wpAny_bind (wpAny_bind (wpAny_loadPart hx (wpAny_bind ((looks_clsIn X hc).here (s := { s with toks := s.toks + 1 }) ?_))))))
  rw [hh]
  have hx₁ : (s.heap.push { cls := .type "dict", data := .dict #[] }).get? x = some { cls := .ref C, dict := none, data := .fields vs, slots := osl } := Heap.get?_push_of_some _ hx
  simp only [typeHasDict, Bool.not_true, Bool.false_eq_true, if_false, Bool.or_self]
  refine wpAny_bind (wpAny_alloc' (wpAny_bind (wpAny_update' hx₁ (wpAny_pure ?_))))
  have hgd : ((s.heap.push { cls := .type "dict", data := .dict #[] }).update x fun o => { cls := o.cls, dict := some s.heap.objs.size, data := o.data, slots := o.slots }).get? s.heap.objs.size = some (dictOf [] 0) :=
    (Heap.get?_update_ne _ _ _ _ hxs.symm).trans (Heap.get?_push_at rfl rfl)
  have hgx : ((s.heap.push { cls := .type "dict", data := .dict #[] }).update x fun o => { cls := o.cls, dict := some s.heap.objs.size, data := o.data, slots := o.slots }).get? x = some { cls := .ref C, dict := some s.heap.objs.size, data := .fields vs, slots := osl } :=
    Heap.get?_update_self _ hx₁ rfl
  refine tail_store (s := { s with heap := (s.heap.push { cls := .type "dict", data := .dict #[] }).update x fun o => { cls := o.cls, dict := some s.heap.objs.size, data := o.data, slots := o.slots }, toks := s.toks + 1 }) hgd rfl (by decide) fun h' hsh t n' tk sb hg' => ?_
  refine h h' s.heap.objs.size _ n' tk (fun b o hb e => ?_) (fresh_none s.heap) (by rw [sb.2 x hxs]; exact hgx) hg' (fun y hy => ?_) (Nat.le_refl 1)
  · rw [sb.2 b (Nat.ne_of_lt (Heap.lt_size e)), Heap.get?_update_ne _ _ _ _ hb]
    exact Heap.get?_push_of_some _ e
  · rw [getL_snoc rfl, if_neg hy]; rfl
theorem exc_set2 {ox : Obj} {dx : Addr} {name : Str} {v : Value} {cd : ClassData} {es : List DictEntry} {n : Nat} {Q : Unit → Shared → Prop} (X : K.In s.heap) (I : InstAt s.heap x ox C (some (dictOf es n))) (hd : ox.dict = some dx) (hc : clsIn K C = some cd) (hh : cd.hasDict = true) (ho : cd.mro.contains (.type "object") = true)
    (hp : refuseLoop (.ref x) "__setattr__" cd.mro = pure ()) (hs : findIn K (.ref C) "__setattr__" = some (some (.builtin "object.__setattr__"))) (ht : findIn K (.ref C) name = some none) (hg : getL name es = some none) (hz : es.length < 1000)
    (h : ∀ h' tk, Heap.SameBut dx s.heap h' → Q () { s with heap := h', toks := tk }) :
    wpAny (model prog w) A (PySem.setAttr (.ref x) name v) Q E s := by
  refine set_plain X I hs (osa_exc (s := { s with toks := s.toks + 1 }) X I hc ho hp ht fun b => ?_)
  obtain ⟨hx, hcl, hn, hdx⟩ := I
  obtain ⟨oc, odi, oda, osl⟩ := ox
  dsimp only at hcl hd
  subst hcl hd
  refine wpAny_bind (wpAny_pure (wpAny_bind (wpAny_bind (wpAny_loadPart hx (wpAny_bind ((looks_clsIn X hc).here (s := { s with toks := s.toks + 1 }) ?_))))))
  rw [hh]
  refine wpAny_pure (a := some dx) ?_
  exact tail_store (s := { s with toks := s.toks + 1 }) hdx hg hz fun h' _ _ _ tk sb _ => h h' tk sb
end
section
variable {M : Model} {A : Around} {E : Value → Shared → Prop} {h : Heap} {g : Array GenState} {d : PySem.Drawn} {t : Nat} {os : OsState}
variable {nm q : Str} {C N B0 : Addr} {bs : List Value} {hdct : Bool} {sn : List Str} {sub : List Value} {ab : Bool} {col : Option Bool} {dd : Option Addr} {k0 k1 k2 k3 k5 : Option Value}
abbrev bmX (B0 : Addr) : List Value := [.ref B0, .type "Exception", .type "BaseException", .type "object"]
abbrev nX : String := "Exception.__new__"
theorem exc_check_new (Fn : ExcBaseFacts "Exception" nX "Exception.__init__" [.type "Exception", .type "BaseException", .type "object"]) {rest : List Value} {Q : Unit → Shared → Prop} (hC : h.get? C = some (excClassObj nm q C N bs (bmX B0) hdct sn sub ab col dd k0 k1 k2 k3 k5 nX))
    (hq : Q () ⟨h, g, d, t, os⟩) : wpAny M A (checkBuiltinCall nX ⟨.ref C :: rest, []⟩) Q E ⟨h, g, d, t, os⟩ := by
  have hcont : (Value.ref C :: bmX B0).contains (.type "Exception") = true := by simp [bmX]
  have hstar := Fn.noStar
  simp only [checkBuiltinCall, Fn.newKind, Fn.newSplit, Fn.newRow]
  repeat (first | refine wpAny_loadPart_at hC ?_ | (refine wpAny_isSubtype_exc hC ?_; rw [hcont]) | refine wpAny_staticBase_exc hC ?_ | refine wpAny_madeBy_exc hC ?_ | simp only [bne_self_eq_false, Bool.false_eq_true, if_false] | wp_step)
  exact hq
end
section
variable {prog : Program} {w : World} {A : Around} {R : Result → Shared → Prop} {E : Value → Shared → Prop} {h : Heap} {g : Array GenState} {d : PySem.Drawn} {t : Nat} {os : OsState}
variable {nm q : Str} {C N B0 : Addr} {bs : List Value} {hdct : Bool} {sn : List Str} {sub : List Value} {ab : Bool} {col : Option Bool} {dd : Option Addr} {k0 k1 k2 k3 k5 : Option Value}
theorem exc_new (Fn : ExcBaseFacts "Exception" nX "Exception.__init__" [.type "Exception", .type "BaseException", .type "object"]) {rest : List Value} (hC : h.get? C = some (excClassObj nm q C N bs (bmX B0) hdct sn sub ab col dd k0 k1 k2 k3 k5 nX))
    (hq : R (.ok (.ret (.ref (h.objs.size + 1)))) ⟨(h.push { cls := .type "tuple", data := .seq rest.toArray }).push
      { cls := .ref C, data := .fields #[.ref h.objs.size, .none, .none, .none, .bool false, .none] }, g, d, t, os⟩) (hrest : rest.length ≤ sizeLine) :
    codeAny (model prog w) A (.builtin nX ⟨.ref C :: rest, []⟩) R ⟨h, g, d, t, os⟩ := by
  have hends := Fn.ends
  have hcB : (Value.ref C :: bmX B0).contains (.type "Exception") = true := by simp [bmX]
  have hcA : (Value.ref C :: bmX B0).contains (.type "AttributeError") = false := by simp [bmX]
  have hcN : (Value.ref C :: bmX B0).contains (.type "NameError") = false := by simp [bmX]
  refine codeAny_builtinAt Fn.entry ?_
  unfold Builtin.«BaseException.__new__»
  refine PySem.wpAt_bind ?_
  show PySem.wpAt _ _ _ (stack >>= _) _ _ _
  refine PySem.wpAt_bind (PySem.wpAt_stack fun p below => PySem.wpAt_of_wpAny ?_)
  wp_walk
  refine PySem.wpAt_of_wpAny ?_
  rw [Fn.owner]
  repeat (first | with_reducible refine wpAny_madeHere_exc Fn.canon hC ?_ | with_reducible refine wpAny_loadPart_at hC ?_ | (with_reducible refine wpAny_isSubtype_exc hC ?_; first | rw [hcB] | rw [hcA] | rw [hcN]) | wp_step)
  show R _ _
  rw [Heap.size_push]
  exact hq
theorem exc_type_call (Fn : ExcBaseFacts "Exception" nX "Exception.__init__" [.type "Exception", .type "BaseException", .type "object"]) {K : Frag} {rest : List Value} {fI : Addr} {oI : Obj} {Q : PySem.Fin → Shared → Prop}
    (hC : h.get? C = some (excClassObj nm q C N bs (bmX B0) hdct sn sub ab col dd k0 k1 k2 k3 k5 nX)) (X : K.In h) (hi : findIn K (.ref C) "__init__" = some (some (.ref fI))) (hfI : h.get? fI = some oI) (hfc : oI.cls = .type "function") (hrest : rest.length ≤ sizeLine)
    (hq : wpAny (model prog w) A (call (.ref fI) (.ref (h.objs.size + 1) :: rest)) (fun r s' => r = .none ∧ Q (.done (.ret (.ref (h.objs.size + 1)))) s') E ⟨(h.push { cls := .type "tuple", data := .seq rest.toArray }).push
      { cls := .ref C, data := .fields #[.ref h.objs.size, .none, .none, .none, .bool false, .none] }, g, d, t, os⟩) :
    wpAny (model prog w) A (Builtin.«type.__call__» ⟨.ref C :: rest, []⟩) Q E ⟨h, g, d, t, os⟩ := by
  repeat (first | with_reducible refine wpAny_loadPart_at hC ?_ | with_reducible refine wpAny_madeBy_exc hC ?_ | wp_step)
  refine codeAny_call_builtin_code (Code.quiet_builtin _ Fn.quiet) (exc_check_new Fn hC ?_)
  refine exc_new Fn hC ?_ hrest
  show wpAny _ _ _ _ _ _
  have kk : ∀ b o, h.get? b = some o → ((h.push { cls := .type "tuple", data := .seq rest.toArray }).push { cls := .ref C, data := .fields #[.ref h.objs.size, .none, .none, .none, .bool false, .none] }).get? b = some o := fun b o e => Heap.get?_push_of_some _ (Heap.get?_push_of_some _ e)
  have hC₁ := kk _ _ hC
  have hfI₁ := kk _ _ hfI
  have X₁ : K.In ((h.push { cls := .type "tuple", data := .seq rest.toArray }).push { cls := .ref C, data := .fields #[.ref h.objs.size, .none, .none, .none, .bool false, .none] }) := X.keeps kk
  have hget : ((h.push { cls := .type "tuple", data := .seq rest.toArray }).push
      { cls := .ref C, data := .fields #[.ref h.objs.size, .none, .none, .none, .bool false, .none] }).get? (h.objs.size + 1) = some
      { cls := .ref C, data := .fields #[.ref h.objs.size, .none, .none, .none, .bool false, .none] } := by heap_get
  have hcC : (Value.ref C :: bmX B0).contains (.ref C) = true := by simp
  unfold isInstance
  repeat (first | with_reducible refine wpAny_loadPart_at hget ?_ | (with_reducible refine wpAny_isSubtype_exc hC₁ ?_; rw [hcC]) | wp_step)
  show wpAny _ _ (typeLookup (.ref C) _) _ _ _
  refine looks_findIn X₁ hi _ _ _ _ (fun _ _ e => e) ?_
  refine wpAny_holding (wpAny_bind ?_)
  unfold bindSpecial
  refine wpAny_bind (wpAny_typeOf (T := "function") ⟨_, hfI₁, hfc⟩ ?_)
  rw [if_pos (by decide)]
  refine wpAny_pure (wpAny_bind (wpAny_mono hq (fun r s' hr => ?_) fun _ _ x => x))
  obtain ⟨rfl, hQ⟩ := hr
  wp_walk
  exact hQ
theorem exc_call (Fn : ExcBaseFacts "Exception" nX "Exception.__init__" [.type "Exception", .type "BaseException", .type "object"]) {K : Frag} {rest : List Value} {fI : Addr} {oI : Obj} {Q : Value → Shared → Prop}
    (hC : h.get? C = some (excClassObj nm q C N bs (bmX B0) hdct sn sub ab col dd k0 k1 k2 k3 k5 nX)) (X : K.In h) (hi : findIn K (.ref C) "__init__" = some (some (.ref fI))) (hfI : h.get? fI = some oI) (hfc : oI.cls = .type "function") (hrest : rest.length ≤ sizeLine)
    (hq : wpAny (model prog w) (A.under (.builtin "type.__call__" ⟨.ref C :: rest, []⟩)) (call (.ref fI) (.ref (h.objs.size + 1) :: rest)) (fun r s' => r = .none ∧ Q (.ref (h.objs.size + 1)) s') E ⟨(h.push { cls := .type "tuple", data := .seq rest.toArray }).push
      { cls := .ref C, data := .fields #[.ref h.objs.size, .none, .none, .none, .bool false, .none] }, g, d, t, os⟩) :
    wpAny (model prog w) A (call (.ref C) rest) Q E ⟨h, g, d, t, os⟩ := by
  have f1 := tc_lookup
  have f2 := tc_bind (.ref C)
  have hT : (⟨h, g, d, t, os⟩ : Shared).TypeIs (.ref C) "type" := ⟨_, hC, rfl⟩
  refine wpAny_call (codeAny_of_tree ?_)
  show wpAny _ _ (callAny (.ref C) _) _ _ _
  repeat (any_goals (first | assumption | with_reducible refine wpAny_loadPart_at hC ?_ | wp_step))
  refine ⟨rfl, ?_⟩
  refine codeAny_call_builtin_at (Code.quiet_builtin _ (by decide +kernel)) entry_typeCall (wpAny_check_type_call_sub hC (exc_type_call Fn hC X hi hfI hfc hrest ?_))
  exact hq
end
end Mine
end
noncomputable section
namespace Mine
open PySem PySem.W PyProof.Rows PySem.Calls
theorem f35 (w : World) : FnOk (wd w) 35 (fnR (H.me 2 0)) := fns w (e := ⟨35, H.me 2 0, H.z20, H.z26, (.str H.z16 194), 34, false⟩) (by kernel_rfl)
theorem fo35 (P : Params) : (H.H1h P).get? 35 = some H.o35 := gT_is (by kernel_rfl)
theorem fo63 (P : Params) : (H.H1h P).get? 63 = some H.o63 := gT_is (by kernel_rfl)
noncomputable def cd63 : ClassData := match H.o63 with
  | ⟨_, _, .cls cd, _⟩ => cd
  | _ => H.cd H.z29 [] [] 0 H.z29 true [] false
abbrev n_code : Str := ⟨⟨[nat_lit 99, nat_lit 111, nat_lit 100, nat_lit 101]⟩⟩
abbrev n_at : Str := ⟨⟨[nat_lit 97, nat_lit 116]⟩⟩
abbrev n_self : Str := ⟨⟨[nat_lit 115, nat_lit 101, nat_lit 108, nat_lit 102]⟩⟩
theorem e1 (P : Params) : clsIn (KK P) 63 = some cd63 := by kernel_rfl
theorem e2 : cd63.hasDict = true := by kernel_rfl
theorem e3 : cd63.mro = .ref 63 :: bmX 38 := by kernel_rfl
theorem e4 (P : Params) : findIn (KK P) (.ref 63) "__setattr__" = some (some (.builtin "object.__setattr__")) := by kernel_rfl
theorem e5 (P : Params) : findIn (KK P) (.ref 63) n_code = some none := by kernel_rfl
theorem e6 (P : Params) : findIn (KK P) (.ref 63) n_at = some none := by kernel_rfl
theorem e7 (P : Params) : findIn (KK P) (.ref 63) "__init__" = some (some (.ref 35)) := by kernel_rfl
theorem e8 (v : Value) : refuseLoop v "__setattr__" cd63.mro = pure () := by
  rw [e3, refuseLoop_ref, refuseLoop_ref]
  exact PySem.F.store_Exception.passes v
theorem e9 : cd63.mro.contains (.type "object") = true := by rw [e3]; simp [bmX]
theorem o63_is : ∃ nm q bs sn sub ab col dd k0 k1 k2 k3 k5, H.o63 = excClassObj nm q 63 62 bs (bmX 38) true sn sub ab col dd k0 k1 k2 k3 k5 nX := ⟨_, _, _, _, _, _, _, _, _, _, _, _, _, rfl⟩
noncomputable def ip (i : Nat) : Pos × Pos × Pos × Pos := match (fnR (H.me 2 0)).body[i]? with
  | some (.Assign [.Attribute (.Name _ p1) _ p2] (.Name _ p3) p4) => (p1, p2, p3, p4)
  | _ => default
theorem ibody : (fnR (H.me 2 0)).body = [.Assign [.Attribute (.Name n_self (ip 0).1) n_code (ip 0).2.1] (.Name n_code (ip 0).2.2.1) (ip 0).2.2.2, .Assign [.Attribute (.Name n_self (ip 1).1) n_at (ip 1).2.1] (.Name n_at (ip 1).2.2.1) (ip 1).2.2.2] := by kernel_rfl
theorem iparams : (fnR (H.me 2 0)).params = [n_self, n_code, n_at] := by kernel_rfl
theorem ikinds : kindIn (fnR (H.me 2 0)).scope.names n_self = some .local ∧ kindIn (fnR (H.me 2 0)).scope.names n_code = some .local ∧ kindIn (fnR (H.me 2 0)).scope.names n_at = some .local := ⟨by kernel_rfl, by kernel_rfl, by kernel_rfl⟩
theorem gk0 (w : World) : Gk (wd w) (gG false false false false) := gk w false false false false
section
variable {w : World} {A : Around} {s : Shared}
theorem ldN {env : Env} {m : Str → Option Value} {x : Str} {p : Pos} {v : Value} {sc : Scope} {Q : Value → Shared → Prop} {E : Value → Shared → Prop} (fok : FOk ⟨env, fun _ => False⟩ sc) (hk : kindIn sc.names x = some .local) (ns : s.heap.Ns env.locals m) (hv : m x = some v) (h : Q v s) :
    wpAny (model (wd w).prog (wd w).w) A (eval (.Name x p) env) Q E s :=
  wpAny_Name (wpAny_loadName_local fok.kind (fok.loc x hk) ns hv h) (fok.nd x _ hk).1
theorem init_ok {e : Addr} {ox : Obj} {vs : Array Value} {c d : Value} {Q : Value → Shared → Prop} {E : Value → Shared → Prop} (base : ∀ b o, (wd w).hb.get? b = some o → s.heap.get? b = some o) (hx : s.heap.get? e = some ox) (hcls : ox.cls = .ref 63) (hd : ox.dict = none) (hv : ox.data = .fields vs) (hA : A.depth < recursionLimit) (hne : (wd w).hb.get? e = none)
    (hQ : ∀ h' dx tk, (∀ b o, b ≠ e → s.heap.get? b = some o → h'.get? b = some o) → h'.get? e = some { ox with dict := some dx } → Q .none { s with heap := h', toks := tk }) :
    wpAny (model (wd w).prog (wd w).w) A (PySem.call (.ref 35) [.ref e, c, d]) Q E s := by
  refine wpAny_call (enter (gk0 w) (f35 w) hA base (by rw [iparams]; rfl) fun env h1 tk1 nf => ?_)
  obtain ⟨k1, k2, k3⟩ := ikinds
  have fk := nf.fok (fun _ => False)
  obtain ⟨m, ns, hm⟩ := nf.loc
  rw [iparams] at hm
  have m1 := hm n_self (.ref e) (fk.loc _ k1) (by kernel_rfl)
  have m2 := hm n_code c (fk.loc _ k2) (by kernel_rfl)
  have m3 := hm n_at d (fk.loc _ k3) (by kernel_rfl)
  have le : env.locals ≠ e := fun q => nos nf.new (q ▸ hx)
  have hx1 : h1.get? e = some ox := nf.keep _ _ hx
  have b1 : ∀ b o, (wd w).hb.get? b = some o → h1.get? b = some o := fun b o e => nf.keep b o (base b o e)
  rw [ibody]
  refine wpAny_execs_cons (plainObj_wpAny_Assign_Attribute (ldN (s := { s with heap := h1, toks := tk1 }) fk k2 ns m2 (ldN (s := { s with heap := h1, toks := tk1 }) fk k1 ns m1 ?_)))
  have notc : notCls ox = true := by unfold notCls; rw [hv]
  refine exc_set1 (s := { s with heap := h1, toks := tk1 }) ((KK_in w.params).keeps b1) ⟨hx1, hcls, notc, by rw [hd]; trivial⟩ hd hv (e1 w.params) e2 e9 (e8 _) (e4 w.params) (e5 w.params) fun h2 dx es n' tk2 kk fr gx gd ge le1 => ?_
  have ns2 : h2.Ns env.locals m := by
    obtain ⟨o, es, ep, ho, q⟩ := ns
    exact ⟨o, es, ep, kk _ _ le ho, q⟩
  have b2 : ∀ b o, (wd w).hb.get? b = some o → h2.get? b = some o := fun b o q => kk b o (fun w' => nos hne (w' ▸ q)) (b1 b o q)
  refine wpAny_execs_cons (plainObj_wpAny_Assign_Attribute (ldN (s := { s with heap := h2, toks := tk2 }) fk k3 ns2 m3 (ldN (s := { s with heap := h2, toks := tk2 }) fk k1 ns2 m1 ?_)))
  refine exc_set2 (s := { s with heap := h2, toks := tk2 }) ((KK_in w.params).keeps b2) (ox := { ox with dict := some dx }) ⟨gx, hcls, notc, gd⟩ rfl (e1 w.params) e2 e9 (e8 _) (e4 w.params) (e6 w.params) (ge _ (sq_ne (by kernel_rfl))) (Nat.lt_of_le_of_lt le1 (by decide)) fun h3 tk3 sb => wpAny_execs_nil ?_
  have dne : ∀ b o, s.heap.get? b = some o → b ≠ dx := fun b o q w' => nos (show h1.get? dx = none from fr) (w' ▸ nf.keep b o q)
  refine hQ h3 dx tk3 (fun b o hb q => ?_) ?_
  · rw [sb.2 b (dne b o q)]
    exact kk b o hb (nf.keep b o q)
  · rw [sb.2 e (dne e _ hx)]
    exact gx
abbrev excO (t dx : Addr) : Obj := { cls := .ref 63, dict := some dx, data := .fields #[.ref t, .none, .none, .none, .bool false, .none] }
theorem made_ok {c d : Value} {k : Nat} {Q : Value → Shared → Prop} {E : Value → Shared → Prop} (base : ∀ b o, (wd w).hb.get? b = some o → s.heap.get? b = some o) (ao : AOk (k + 1) A)
    (hQ : ∀ h' e t dx tk, (∀ b o, s.heap.get? b = some o → h'.get? b = some o) → s.heap.get? e = none → h'.get? e = some (excO t dx) → Q (.ref e) { s with heap := h', toks := tk }) :
    wpAny (model (wd w).prog (wd w).w) A (PySem.call (.ref 63) [c, d]) Q E s := by
  obtain ⟨hh, g, dd, t, os⟩ := s
  obtain ⟨nm, q, bs', sn, sub, ab, col, ddc, k0, k1, k2, k3, k5, e0⟩ := o63_is
  have hC := base _ _ (fo63 w.params)
  rw [e0] at hC
  have fr : hh.get? (hh.objs.size + 1) = none := Heap.get?_none_of_le (Nat.le_succ _)
  have kk : ∀ b o, hh.get? b = some o → ((hh.push { cls := .type "tuple", data := .seq [c, d].toArray }).push { cls := .ref 63, data := .fields #[.ref hh.objs.size, .none, .none, .none, .bool false, .none] }).get? b = some o := fun b o e => Heap.get?_push_of_some _ (Heap.get?_push_of_some _ e)
  have hget : ((hh.push { cls := .type "tuple", data := .seq [c, d].toArray }).push
      { cls := .ref 63, data := .fields #[.ref hh.objs.size, .none, .none, .none, .bool false, .none] }).get? (hh.objs.size + 1) = some
      { cls := .ref 63, data := .fields #[.ref hh.objs.size, .none, .none, .none, .bool false, .none] } := by heap_get
  refine exc_call PySem.F.excBase_Exception hC ((KK_in w.params).keeps base) (e7 w.params) (base _ _ (fo35 w.params)) rfl (by rw [sizeLine_eq]; exact Nat.le_of_ble_eq_true rfl) ?_
  refine init_ok (s := ⟨_, g, dd, t, os⟩) (fun b o e => kk b o (base b o e)) hget rfl rfl rfl (Nat.lt_of_le_of_lt (Nat.le_add_right _ _) (AOk.under ao ⟨.ref 63 :: [c, d], []⟩).depth) ?_ fun h' dx tk kept gx => ⟨rfl, ?_⟩
  · cases q : (wd w).hb.get? (hh.objs.size + 1) with
    | none => rfl
    | some o => exact nos fr (base _ _ q)
  · exact hQ h' _ _ dx tk (fun b o e => kept b o (fun q => nos fr (q ▸ e)) (kk b o e)) fr gx
end
end Mine
end
noncomputable section
namespace Mine
open PySem PySem.W PyProof.Rows PySem.Calls
section
variable {w : World} {A : Around} {s : Shared} {env : Env}
theorem exc_raiseStmt {x : Sem Value} {Q : Flow → Shared → Prop} {E : Value → Shared → Prop} (hh : A.handled = none)
    (h : wpAny (model (wd w).prog (wd w).w) A x (fun v s₁ => ∃ e t dx, v = .ref e ∧ (∀ b o, (wd w).hb.get? b = some o → s₁.heap.get? b = some o) ∧
      s₁.heap.get? e = some (excO t dx) ∧ E (.ref e) s₁) E s) :
    wpAny (model (wd w).prog (wd w).w) A (raiseStmt env (some x) none) Q E s := by
  have hcB : (Value.ref 63 :: bmX 38).contains (.type "BaseException") = true := by simp [bmX]
  unfold raiseStmt
  refine wpAny_bind (wpAny_mono h (fun v s₁ h₁ => ?_) fun _ _ x => x)
  obtain ⟨e, t, dx, rfl, base, he, hE⟩ := h₁
  obtain ⟨nm, q, bs', sn, sub, ab, col, ddc, k0, k1, k2, k3, k5, e0⟩ := o63_is
  have hC := base _ _ (fo63 w.params)
  rw [e0] at hC
  obtain ⟨hp, g, d, tk, os⟩ := s₁
  repeat (first | with_reducible refine wpAny_loadPart_at he ?_ | with_reducible refine wpAny_loadPart_at hC ?_ | (with_reducible refine wpAny_isSubtype_exc hC ?_; rw [hcB]) | wp_step)
  exact wpAny_raiseNew_none hh hE
theorem exc_Raise {x : Str} {np cpos pos : Pos} {args : List Expr} {k : Nat} {Q : Flow → Shared → Prop} {E : Value → Shared → Prop} (ao : AOk (k + 1) A) (hplain : (backTo cpos (starEach args env)).any (·.1) = false)
    (h : wpAny (model (wd w).prog (wd w).w) A (eval (.Name x np) env) (fun f s₁ => f = .ref 63 ∧ wpAny (model (wd w).prog (wd w).w) A (evalArgs (.ref 63) true (backTo cpos (starEach args env)) [])
      (fun a s₂ => a.kw = [] ∧ ∃ c d, a.pos = [c, d] ∧ (∀ b o, (wd w).hb.get? b = some o → s₂.heap.get? b = some o) ∧
        ∀ h' e t dx tk, (∀ b o, s₂.heap.get? b = some o → h'.get? b = some o) → s₂.heap.get? e = none → h'.get? e = some (excO t dx) → E (.ref e) { s₂ with heap := h', toks := tk }) E s₁) E s) :
    wpAny (model (wd w).prog (wd w).w) A (exec (.Raise (some (.Call (.Name x np) args [] cpos)) none pos) env) Q E s := by
  rw [arm_exec_Raise]
  first
    | refine wpAny_bind (wpAny_standAt (exc_raiseStmt ao.handled (wpAny_bind (wpAny_mono (wpAny_Call_ofName (wpAny_mono h (fun f s₁ h₁ => ?_) fun _ _ x => x)) (fun v s₃ h₃ => wpAny_bind (wpAny_standAt (wpAny_pure h₃))) fun _ _ x => x))))
    | (simp only [evalOpt, Option.map]; refine wpAny_bind (wpAny_standAt (exc_raiseStmt ao.handled (wpAny_bind (wpAny_mono (wpAny_Call_ofName (wpAny_mono h (fun f s₁ h₁ => ?_) fun _ _ x => x)) (fun v s₃ h₃ => wpAny_bind (wpAny_standAt (wpAny_pure h₃))) fun _ _ x => x)))))
  obtain ⟨rfl, h₁⟩ := h₁
  unfold callWith
  refine wpAny_bind (wpAny_holding (wpAny_mono h₁ (fun a s₂ h₂ => wpAny_bind (wpAny_standAt ?_)) fun _ _ x => x))
  obtain ⟨apos, akw⟩ := a
  obtain ⟨hkw, c, d, hpos, base, h₂⟩ := h₂
  obtain rfl : akw = [] := hkw
  obtain rfl : apos = [c, d] := hpos
  obtain ⟨nm, q, bs', sn, sub, ab, col, ddc, k0, k1, k2, k3, k5, e0⟩ := o63_is
  have hC := base _ _ (fo63 w.params)
  rw [e0] at hC
  obtain ⟨hp, g, d', tk, os⟩ := s₂
  simp only [hplain]
  refine wpAny_bind (wpAny_keeperOf_exc hC ?_)
  refine wpAny_bind (made_ok (s := ⟨hp, g, d', tk, os⟩) base ao fun h' e t dx tk' kk fr gx => wpAny_bind (wpAny_holding (wpAny_point (wpAny_pure ?_))))
  exact ⟨e, t, dx, rfl, fun b o q => kk b o (base b o q), gx, h₂ h' e t dx tk' kk fr gx⟩
end
end Mine
end
noncomputable section
namespace Mine
open PySem PySem.W PyProof.Rows PySem.Calls
noncomputable def Ez (base : Heap) (outer : List Env) (s : Shared) (v : Value) (s' : Shared) : Prop := ∃ e t h' tk, v = .ref e ∧ s' = { s with heap := h', toks := tk } ∧ Heap.FlyingW base outer e (.ref 63) (.ref t) h'
noncomputable def FF (env : Env) : Prop := env.scope.kind ≠ .module ∧ env.frame = some env.locals
structure Fr (base : Heap) (outer : List Env) (F : Fm) (m : Ms) (h : Heap) : Prop where
  st : base.StaysIn h
  off : ∀ a, NF F m a → base.get? a = none
  out : ∀ e ∈ outer, FF e ∧ F.hid e.locals ∧ ∃ f, h.Ns e.locals f
section
variable {X : Wd} {G : Cfg} {base : Heap} {outer : List Env} {F : Fm} {m m' : Ms} {ρ ρ' : Rho} {σ σ' : St} {s s' : Shared} {env : Env} {A : Around} {v : Value} {k n : Nat} {sc : Scope} {fr : FnRec}
theorem Ez.after (sm : Same s s') {s'' : Shared} (x : Ez base outer s' v s'') : Ez base outer s v s'' := by
  obtain ⟨_, _, rfl⟩ := sm
  obtain ⟨e, t, h'', tk'', rfl, rfl, f⟩ := x
  exact ⟨e, t, h'', tk'', rfl, rfl, f⟩
theorem Fr.step (fr : Fr base outer F m s.heap) (I : Inv X F ρ σ m s.heap) (st : Step F m m' s s') : Fr base outer F m' s'.heap := by
  have keep : ∀ b o, s.heap.get? b = some o → b ≠ F.env.locals → ¬ (fl m.M b ∨ b ∈ m.K) → s'.heap.get? b = some o := st.kept
  refine ⟨fun b o e => keep b o (fr.st b o e) (fun w => nos (fr.off b (.inr (.inl w))) e) fun w => nos (fr.off b (.inr (.inr w))) e, fun a q => ?_, fun e me => ?_⟩
  · rcases q with q | q | q
    · exact fr.off a (.inl q)
    · exact fr.off a (.inr (.inl q))
    · refine (st.new a q).elim (fun q => fr.off a (.inr (.inr q))) fun q => ?_
      cases w : base.get? a with
      | none => rfl
      | some o => exact nos q (fr.st a o w)
  · obtain ⟨a, hid, f, o, es, ep, ho, q⟩ := fr.out e me
    exact ⟨a, hid, f, o, es, ep, keep _ _ ho (fun w => I.lhid (w ▸ hid)) fun w => (I.mhid _ w).1 hid, q⟩
theorem Fr.here (x : Fr base outer F m s.heap) (I : Inv X F ρ σ m s.heap) (own : FF F.env) : s.heap.FunFrames base (F.env :: outer) := by
  obtain ⟨f, hf, _⟩ := I.loc
  refine .cons own.1 own.2 hf (x.off _ (.inr (.inl rfl))) ?_
  have : ∀ l : List Env, (∀ e ∈ l, FF e ∧ F.hid e.locals ∧ ∃ f, s.heap.Ns e.locals f) → s.heap.FunFrames base l := fun l => by
    induction l with
    | nil => exact fun _ => trivial
    | cons e l ih =>
      intro h
      obtain ⟨a, hid, f, hf⟩ := h e (.head _)
      exact .cons a.1 a.2 hf (x.off _ (.inl hid)) (ih fun e m => h e (.tail _ m))
  exact this outer x.out
theorem Fr.enter {vs : List Value} {h₁ : Heap} (x : Fr base outer F m s.heap) (I : Inv X F ρ σ m s.heap) (own : FF F.env) (nf : NewF fr vs s.heap h₁ env) : Fr base (F.env :: outer) (callF F m env) ⟨m.M, []⟩ h₁ := by
  refine ⟨fun b o e => nf.keep b o (x.st b o e), fun a q => ?_, fun e me => ?_⟩
  · rcases q with (q | q | q | q) | q | q | q
    · exact x.off a (.inl q)
    · exact x.off a (.inr (.inl q))
    · exact x.off a (.inr (.inr (.inr q)))
    · exact q.elim
    · have q : a = env.locals := q
      cases w : base.get? a with
      | none => rfl
      | some o => exact nos nf.new (q ▸ x.st a o w)
    · exact x.off a (.inr (.inr (.inl q)))
    · cases q
  · have ns : ∀ {a f}, s.heap.Ns a f → ∃ f, h₁.Ns a f := fun {a f} ⟨o, es, ep, ho, q⟩ => ⟨f, o, es, ep, nf.keep _ _ ho, q⟩
    rcases List.mem_cons.mp me with rfl | me
    · obtain ⟨f, hf, _⟩ := I.loc
      exact ⟨own, .inr (.inl rfl), ns hf⟩
    · obtain ⟨a, hid, f, hf⟩ := x.out e me
      exact ⟨a, .inl hid, ns hf⟩
end
section
variable {w : World} {base : Heap} {outer : List Env} {F : Fm} {m m' : Ms} {ρ ρ' : Rho} {σ σ' : St} {s s' : Shared} {env : Env} {A : Around} {v : Value} {k n : Nat} {sc : Scope} {fr : FnRec} {args : List D} {pi : List Cell} {a : Addr} {r : List Stmt} {st : Stmt}
noncomputable def RaiseOk (w : World) (k : Nat) (a : Addr) (args : List D) (pi : List Cell) : Prop := ∀ {A : Around} {F : Fm} {ρ : Rho} {lc : List (List D)} {m : Ms} {s : Shared} {vs : List Value} {Q E : Value → Shared → Prop} {base : Heap} {outer : List Env}, AOk k A → A.frames = some (F.env :: outer) → FF F.env → Fr base outer F m s.heap →
  Inv (wd w) F ρ ⟨pi, lc⟩ m s.heap → Reps (wd w) m.M (NF F m) s.heap vs args → (∀ v s', Ez base (F.env :: outer) s v s' → E v s') → wpAny (model (wd w).prog (wd w).w) A (PySem.call (.ref a) vs) Q E s
noncomputable def BodyR (w : World) (k : Nat) (sc : Scope) (body : List Stmt) (ρ : Rho) (pi : List Cell) : Prop := ∀ {A : Around} {F : Fm} {m : Ms} {s : Shared} {Q : Flow → Shared → Prop} {E : Value → Shared → Prop} {base : Heap} {outer : List Env}, AOk k A → A.frames = some (F.env :: outer) → FF F.env → FOk F sc → Fr base outer F m s.heap →
  Inv (wd w) F ρ ⟨pi, []⟩ m s.heap → (∀ v s', Ez base outer s v s' → E v s') → wpAny (model (wd w).prog (wd w).w) A (execs body F.env) Q (fun v s' => wpAny (model (wd w).prog (wd w).w) A (leaving F.env v) (fun _ s'' => E v s'') (fun e' s'' => E e' s'') s') s
theorem raise_of (fo : FnOk (wd w) a fr) (hl : args.length = fr.params.length) (hb : BodyR w k fr.scope fr.body (rho0 fr.scope.names fr.params args) pi) : RaiseOk w (k + 1) a args pi := by
  intro A F ρ lc m s vs Q E base outer ao hfr own x I rs hE
  refine wpAny_call (enter (gk0 w) fo (Nat.lt_of_le_of_lt (Nat.le_add_right _ _) ao.depth) I.base (rs.length.trans hl) fun env h₁ tk nf => ?_)
  exact hb (F := callF F m env) (m := ⟨m.M, []⟩) (s := { s with heap := h₁, toks := tk }) ao.deeper (Around.frames_deeper hfr) ⟨by rw [(nf.fok fun _ => False).kind]; decide, nf.frame⟩ (nf.fok _) (x.enter I own nf) (nf.inv I rs hl) fun v s' z => hE v s' (z.after ⟨h₁, tk, rfl⟩)
theorem BodyR.cons (h : RunC w 0 (cS (gG false false false false) 60 sc st ρ ⟨pi, []⟩ .done) (none, ρ', ⟨pi, []⟩)) (r' : BodyR w (k + 1) sc r ρ' pi) : BodyR w (k + 1) sc (st :: r) ρ pi := by
  intro A F m s Q E base outer ao hfr own fok x I hE
  refine wpAny_execs_cons (noE (sound (gk0 w) (ao.le (Nat.le_add_left 1 k)) 60 fok I h fun f o m' s' st I' fi h => ?_))
  cases h
  cases fi
  exact r' ao hfr own fok (x.step I st) I' fun v s'' z => hE v s'' (z.after st.same)
theorem leave_on {Q : Unit → Shared → Prop} {E : Value → Shared → Prop} (hfr : A.frames = some (env :: outer)) (own : FF env) (x : Ez base (env :: outer) s v s') (hQ : ∀ s'', Ez base outer s v s'' → Q () s'') :
    wpAny (model (wd w).prog (wd w).w) A (leaving env v) Q E s' := by
  obtain ⟨e, t, h', tk, rfl, rfl, f⟩ := x
  exact wpAny_leaves_onW (s := { s with heap := h', toks := tk }) hfr own.2 f fun h'' f' _ => hQ _ ⟨e, t, h'', tk, rfl, rfl, f'⟩
end
end Mine
end
noncomputable section
namespace Mine
open PySem PySem.W PyProof.Rows PySem.Calls
noncomputable abbrev G0 : Cfg := gG false false false false
noncomputable def preM (sc : Scope) (o : Expr) (x : Str) (args : List Expr) (ρ : Rho) (σ : St) : Tr := cE G0 60 sc o ρ σ (onD fun d σ1 => lift (methA G0 d x σ1) fun a => mapC (fun e σ k => cE G0 60 sc e ρ σ (onD k)) args σ1 fun ds σ2 => .done (some (.dat (.tup (.ref a :: d :: ds))), [], σ2))
noncomputable def preN (sc : Scope) (x : Str) (args : List Expr) (ρ : Rho) (σ : St) : Tr := lift (glob x) fun g => match g with
  | .ref a => mapC (fun e σ k => cE G0 60 sc e ρ σ (onD k)) args σ fun ds σ2 => .done (some (.dat (.tup (.ref a :: ds))), [], σ2)
  | _ => .fail
section
variable {w : World} {base : Heap} {outer : List Env} {F : Fm} {m m' : Ms} {ρ ρ' : Rho} {σ σ' : St} {s s' : Shared} {env : Env} {A : Around} {v : Value} {k n : Nat} {sc : Scope} {args : List Expr} {pi : List Cell} {a : Addr} {ds : List D} {o : Expr} {x : Str} {ap p p' xp : Pos}
theorem meth_raise {Q E : Value → Shared → Prop} (ao : AOk 1 A) (fok : FOk F sc) (I : Inv (wd w) F ρ σ m s.heap) (h : RunC w 0 (preM sc o x args ρ σ) (some (.dat (.tup (.ref a :: ds))), [], σ')) (hc : (okEs args && (plainBase o && (ap.endLine == p.line) && Nat.blt args.length 30)) = true)
    (call : ∀ vs m' s', Step F m m' s s' → Inv (wd w) F ρ σ' m' s'.heap → Reps (wd w) m'.M (NF F m') s'.heap vs ds → wpAny (model (wd w).prog (wd w).w) A (PySem.call (.ref a) vs) Q E s') :
    wpAny (model (wd w).prog (wd w).w) A (eval (.Call (.Attribute o x ap) args [] p) F.env) Q E s := by
  obtain ⟨oe, hc⟩ := Bool.and_eq_true_iff.mp hc
  obtain ⟨hc, hn⟩ := Bool.and_eq_true_iff.mp hc
  obtain ⟨hb, hl⟩ := Bool.and_eq_true_iff.mp hc
  obtain ⟨pl1, pl2⟩ := args_plain p F.env oe
  have S : SE (wd w) G0 0 A sc F 60 := (sound_e (gk0 w) (k := 0) ao 60).1 fok
  refine call_dot hb hl hn pl2 (noE (S I h (KD fun ov d σ₁ m₁ s₁ st₁ I₁ r₁ h pl => ?_)))
  refine liftW h fun a' w0 h => bindW w0 fun q w1 w2 => ?_
  obtain ⟨b, dx, vs, rfl, @⟨ox, es', nn', _, In, _, hl, _⟩, z, rs⟩ := obj_at (cl := q.1) (ns := q.2.1) (ds := q.2.2) I₁ r₁ w1
  cases w3 : fget q.2.1 q.2.2 x with
  | some => rw [w3] at w2; exact nn w2
  | none =>
    rw [w3] at w2
    refine bindW w2 fun f w4 w5 => ?_
    cases w5
    obtain ⟨ob, fd, ho, hfd⟩ := (gk0 w).methFn _ x a' w4
    exact (gk0 w).methOk _ x a' w4 A s₁ b ox es' nn' pl _ _ I₁.base In (by rw [hl, (fget_at z rs).2 w3]) (callWith_function (o := ob) (fd := fd) (noE (e_eargs S p oe I₁ h fun us ds σ' m' s' st I rs h => by
      cases h
      exact ⟨⟨I.base _ _ ho, hfd⟩, call _ _ _ (st₁.trans st) I (((Reps.one r₁).step st).append rs)⟩)))
theorem name_raise {Q E : Value → Shared → Prop} (ao : AOk 1 A) (fok : FOk F sc) (I : Inv (wd w) F ρ σ m s.heap) (h : RunC w 0 (preN sc x args ρ σ) (some (.dat (.tup (.ref a :: ds))), [], σ')) (hc : (okEs args && isK .globalImplicit (kindIn sc.names x)) = true)
    (call : ∀ vs m' s', Step F m m' s s' → Inv (wd w) F ρ σ' m' s'.heap → Reps (wd w) m'.M (NF F m') s'.heap vs ds → wpAny (model (wd w).prog (wd w).w) A (PySem.call (.ref a) vs) Q E s') :
    wpAny (model (wd w).prog (wd w).w) A (eval (.Call (.Name x xp) args [] p) F.env) Q E s := by
  obtain ⟨oe, q⟩ := Bool.and_eq_true_iff.mp hc
  have S : SE (wd w) G0 0 A sc F 60 := (sound_e (gk0 w) (k := 0) ao 60).1 fok
  show wpAny _ A (do callWith p (← eval (.Name x xp) F.env) [] (backTo p (starEach args F.env)) []) Q E s
  refine liftW h fun g hg h => wpAny_bind (noE (glob_at (gk0 w) hg I fok (isK_is q) fun v r => ?_))
  cases g with
  | ref a' =>
    obtain @⟨ob, fd, rfl, ho, hfd⟩ := r
    exact callWith_function (o := ob) (fd := fd) (noE (e_eargs S p oe I h fun us ds σ' m' s' st I rs h => by
      cases h
      exact ⟨⟨I.base _ _ ho, hfd⟩, call _ _ _ st I rs⟩))
  | _ => exact h.elim
theorem BodyR.meth (h : RunC w 0 (preM sc o x args ρ ⟨pi, []⟩) (some (.dat (.tup (.ref a :: ds))), [], ⟨pi, []⟩)) (hc : (okEs args && (plainBase o && (ap.endLine == p.line) && Nat.blt args.length 30)) = true) (ra : RaiseOk w k a ds pi) : BodyR w (k + 1) sc [.Return (some (.Call (.Attribute o x ap) args [] p)) p'] ρ pi :=
  fun ao hfr own fok xx I hE => wpAny_execs_cons (wpAny_Return_some (meth_raise (ao.le (Nat.le_add_left 1 k)) fok I h hc fun vs m' s' st I' rs => ra (ao.le (Nat.le_succ k)) hfr own (xx.step I st) I' rs fun v s'' z => leave_on hfr own (z.after st.same) fun s3 z => hE v s3 z))
theorem BodyR.name (h : RunC w 0 (preN sc x args ρ ⟨pi, []⟩) (some (.dat (.tup (.ref a :: ds))), [], ⟨pi, []⟩)) (hc : (okEs args && isK .globalImplicit (kindIn sc.names x)) = true) (ra : RaiseOk w k a ds pi) : BodyR w (k + 1) sc [.Return (some (.Call (.Name x xp) args [] p)) p'] ρ pi :=
  fun ao hfr own fok xx I hE => wpAny_execs_cons (wpAny_Return_some (name_raise (ao.le (Nat.le_add_left 1 k)) fok I h hc fun vs m' s' st I' rs => ra (ao.le (Nat.le_succ k)) hfr own (xx.step I st) I' rs fun v s'' z => leave_on hfr own (z.after st.same) fun s3 z => hE v s3 z))
end
end Mine
end
noncomputable section
namespace Mine
open PySem PySem.W PyProof.Rows PySem.Calls
abbrev n_LeftOut : Str := ⟨⟨[nat_lit 76, nat_lit 101, nat_lit 102, nat_lit 116, nat_lit 79, nat_lit 117, nat_lit 116]⟩⟩
theorem look_LeftOut (P : Params) : lookS (esOf P 3) n_LeftOut = some (.ref 63) := by kernel_rfl
abbrev lamR : FnRec := fnR (H.me 118 0)
noncomputable def lamA : List Expr × Pos × Pos × Pos := match lamR.body with
  | [.Raise (some (.Call (.Name _ p1) as _ p2)) _ p3] => (as, p1, p2, p3)
  | _ => ([], default, default, default)
theorem lam_body : lamR.body = [.Raise (some (.Call (.Name n_LeftOut lamA.2.1) lamA.1 [] lamA.2.2.1)) none lamA.2.2.2] := by kernel_rfl
abbrev eX : D := .tup [nI 24, nI 16, nI 1]
abbrev s_lambda : Str := ⟨⟨[nat_lit 108, nat_lit 97, nat_lit 109, nat_lit 98, nat_lit 100, nat_lit 97]⟩⟩
section
variable {w : World} {F : Fm} {m : Ms} {ρ : Rho} {σ : St} {s : Shared} {A : Around} {sc : Scope} {pi : List Cell} {c0 c1 : Cell} {tl : List Cell}
theorem lam_args : RunC w 0 (mapC (fun e σ k => cE G0 60 lamR.scope e (rho0 lamR.scope.names lamR.params [.cell 33, .cell 25, eX]) σ (onD k)) lamA.1 ⟨pi, []⟩ fun ds σ2 => .done (some (.dat (.tup ds)), [], σ2)) (some (.dat (.tup [.str s_lambda, nI 1])), [], ⟨pi, []⟩) := fn (by kernel_rfl)
theorem lam_ok : okEs lamA.1 = true := by kernel_rfl
theorem name_LeftOut {p : Pos} {Q E : Value → Shared → Prop} (fok : FOk F sc) (hk : kindIn sc.names n_LeftOut = some .globalImplicit) (hb : ∀ b o, (wd w).hb.get? b = some o → s.heap.get? b = some o) (h : Q (.ref 63) s) :
    wpAny (model (wd w).prog (wd w).w) A (eval (.Name n_LeftOut p) F.env) Q E s := by
  have hg : s.heap.Ns mainGlobals (lookS (esOf w.params 3)) := (ns_of (d3 w.params)).keeps hb
  rw [← fok.glob] at hg
  exact Name_function_global fok.kind (fok.glo _ hk) (loadGlobal_global hg (look_LeftOut w.params) h) (fok.nd _ _ hk).1
theorem lam_raise : RaiseOk w 6 573 [.cell 33, .cell 25, eX] pi := by
  refine raise_of (k := 5) (fr := lamR) (fns w (e := ⟨573, H.me 118 0, H.z180, H.z233, (.str H.z216 1029), 572, false⟩) (by kernel_rfl)) (by kernel_rfl) ?_
  intro A F m s Q E base outer ao hfr own fok x I hE
  have S : SE (wd w) G0 0 A lamR.scope F 60 := (sound_e (gk0 w) (k := 0) (ao.le (by decide)) 60).1 fok
  rw [lam_body]
  refine wpAny_execs_cons (exc_Raise (k := 4) ao (args_plain _ _ lam_ok).1 (name_LeftOut fok (by kernel_rfl) I.base ⟨rfl, noE (e_eargs S _ lam_ok I (lam_args (w := w)) fun us ds σ' m' s₂ st I₂ rs h => ?_)⟩))
  cases h
  obtain @⟨c, _, rfl, _, @⟨d, _, rfl, _, rs⟩⟩ := rs
  cases rs
  refine ⟨rfl, c, d, rfl, I₂.base, fun h' e t dx tk kk fr gx => ?_⟩
  have x₂ := x.step I st
  have hen : base.get? e = none := by
    cases q : base.get? e with
    | none => rfl
    | some o => exact nos fr (x₂.st _ _ q)
  refine wpAny_leaving_firstW (s := { s₂ with heap := h', toks := tk }) (base := base) (outer := outer) hfr ((x₂.here I₂ own).of_keeps fun b o e _ => ⟨o, kk b o e, rfl⟩) own.2 gx (fun b o q => kk b o (x₂.st b o q)) hen rfl rfl rfl fun h'' L => ?_
  obtain ⟨k1, ⟨_, _, k2⟩, k3, _⟩ := L
  exact hE _ _ (Ez.after st.same ⟨e, t, h'', tk, rfl, rfl, k1, hen, k2, k3⟩)
abbrev lowR : FnRec := fnR (H.st 109)
abbrev n_low : Str := ⟨⟨[nat_lit 108, nat_lit 111, nat_lit 119]⟩⟩
noncomputable def lowSt (i : Nat) : Stmt := (lowR.body[i]?).getD (.Pass default)
noncomputable def lowA : Expr × List Expr × Pos × Pos × Pos := match lowSt 2 with
  | .Return (some (.Call (.Attribute o _ ap) as _ p)) p' => (o, as, ap, p, p')
  | _ => (.Name n_low default, [], default, default, default)
theorem low_body : lowR.body = [lowSt 0, lowSt 1, .Return (some (.Call (.Attribute lowA.1 n_low lowA.2.2.1) lowA.2.1 [] lowA.2.2.2.1)) lowA.2.2.2.2] := by kernel_rfl
noncomputable def lowRho : Rho := rho0 lowR.scope.names (lowR.scope.names.map (·.1)) [.cell 25, eX, .cell 33]
theorem low_raise : RaiseOk w 8 490 [.cell 25, eX] (PL c0 c1 ++ tl) := by
  refine raise_of (k := 7) (fr := lowR) (fns w (e := (feGet ftab 490).get (by kernel_rfl)) (by kernel_rfl)) (by kernel_rfl) ?_
  rw [low_body]
  exact BodyR.cons (ρ' := lowRho) (fn (by kernel_rfl)) (BodyR.cons (ρ' := lowRho) (fn (by kernel_rfl)) (BodyR.meth (fn (by kernel_rfl)) (by kernel_rfl) lam_raise))
abbrev exR : FnRec := fnR (H.me 108 1)
noncomputable def exA : Str × Pos × List Expr × Pos × Pos := match exR.body with
  | [.Return (some (.Call (.Name x p1) as _ p)) p'] => (x, p1, as, p, p')
  | _ => (n_low, default, [], default, default)
theorem ex_body : exR.body = [.Return (some (.Call (.Name exA.1 exA.2.1) exA.2.2.1 [] exA.2.2.2.1)) exA.2.2.2.2] := by kernel_rfl
theorem ex_raise : RaiseOk w 10 441 [.cell 25, eX] (PL c0 c1 ++ tl) := by
  refine raise_of (k := 9) (fr := exR) (fns w (e := (feGet ftab 441).get (by kernel_rfl)) (by kernel_rfl)) (by kernel_rfl) ?_
  rw [ex_body]
  exact BodyR.name (fn (by kernel_rfl)) (by kernel_rfl) low_raise
end
end Mine
end
noncomputable section
namespace Mine
open PySem PySem.W PyProof.Rows PySem.Calls
section
variable {X : Wd} {G : Cfg} {k n : Nat} {A : Around} {sc : Scope} {F : Fm} {ρ ρ' : Rho} {σ σ' : St} {m : Ms} {s : Shared} {r : List Stmt} {Q : Flow → Shared → Prop} {E : Value → Shared → Prop} {fr : FnRec} {vs : List Value} {args : List D} {h₁ : Heap} {env : Env}
theorem s_pre (S : SS X G k A sc F n) : ∀ {l : List Stmt} {ρ : Rho} {σ : St} {m : Ms} {s : Shared}, Inv X F ρ σ m s.heap → Run (CallOk X k) (seqC (cS G n sc) l ρ σ .done) (none, ρ', σ') → (∀ m' s', Step F m m' s s' → Inv X F ρ' σ' m' s'.heap → wpAny (model X.prog X.w) A (execs r F.env) Q E s') → wpAny (model X.prog X.w) A (execs (l ++ r) F.env) Q E s
  | [], _, _, _, _, I, h, K => by cases h; exact K _ _ I.same I
  | st :: l, _, _, _, _, I, h, K => wpAny_execs_cons (noE (S I h fun f o m' s' st I' fi h => by
    obtain ⟨v, ρ1, σ1⟩ := o
    cases v with
    | none => cases fi; exact s_pre S I' h fun m'' s'' st' => K m'' s'' (st.trans st')
    | some v => exact nn (congrArg Prod.fst h).symm))
theorem NewF.first (nf : NewF fr vs s.heap h₁ env) (hb : ∀ b o, X.hb.get? b = some o → s.heap.get? b = some o) (rs : Reps X [] (fun _ => False) s.heap vs args) (hl : args.length = fr.params.length) :
    Inv X ⟨env, fun _ => False⟩ (rho0 fr.scope.names fr.params args) ⟨[], []⟩ ⟨[], []⟩ h₁ ∧ Fr s.heap [] ⟨env, fun _ => False⟩ ⟨[], []⟩ h₁ := by
  have nf0 : ∀ a, NF ⟨env, fun _ => False⟩ ⟨[], []⟩ a → a = env.locals := fun a q => by
    rcases q with q | q | q | q
    · exact q.elim
    · exact q
    · obtain ⟨p, m, _⟩ := q; cases m
    · cases q
  have gr : Grown (fun _ => False) (NF ⟨env, fun _ => False⟩ ⟨[], []⟩) s.heap := fun a q => .inr (nf0 a q ▸ nf.new)
  have kn : KeptN (fun _ => False) s.heap h₁ := fun b o _ e => nf.keep b o e
  have rs : Reps X (Ms.M ⟨[], []⟩) (NF ⟨env, fun _ => False⟩ ⟨[], []⟩) h₁ vs args := Reps.mono (List.prefix_refl _) kn gr rs
  have at' := fun {x d} => (fget_at (s := { s with heap := h₁ }) (x := x) hl.symm rs).1 d
  obtain ⟨f, hf, hl2⟩ := nf.loc
  refine ⟨⟨fun b o e => nf.keep b o (hb b o e), fun a q => ?_, fun a q => ?_, fun q => q, fun a q => ?_, fun a q => (by cases q), fun i j p q e => (by simp at e), List.nodup_nil, ⟨f, hf, fun x v e1 e2 => ?_⟩, fun x v e1 e2 => ?_, rfl, fun i p c e => (by simp at e), rfl, fun i a d e => (by simp at e)⟩, nf.keep, fun a q => nf0 a q ▸ nf.new, fun e m => (by cases m)⟩
  · cases e : X.hb.get? a with
    | none => rfl
    | some o => exact nos nf.new (nf0 a q ▸ hb _ _ e)
  · obtain ⟨o, _, _, e, _⟩ := hf; exact nf0 a q ▸ ⟨o, e⟩
  · rcases q with ⟨p, m, _⟩ | q
    · cases m
    · cases q
  · obtain ⟨d, rfl, hd⟩ := rget_rho0 e1
    obtain ⟨u, hu, _, ru⟩ := at' hd
    exact ⟨u, hl2 x u e2 hu, ru⟩
  · obtain ⟨d, rfl, hd⟩ := rget_rho0 e1
    obtain ⟨u, hu, _, ru⟩ := at' hd
    obtain ⟨c, c1, c2, c3, c4⟩ := nf.cel x u (e2.elim id fun e => absurd e (nf.fre x)) hu
    exact ⟨c, u, c1, c2, fun q => c4 (nf0 c q), ru⟩
end
abbrev n_expr : Str := ⟨⟨[nat_lit 101, nat_lit 120, nat_lit 112, nat_lit 114]⟩⟩
abbrev n_lw : Str := ⟨⟨[nat_lit 108, nat_lit 119]⟩⟩
noncomputable def tryS : Stmt := (lbd[19]?).getD (.Pass default)
noncomputable def tryA : List Expr × Pos × Pos × Pos × Pos × Pos := match tryS with
  | .Try [.Expr (.Call (.Attribute (.Name _ p1) _ p2) as _ p3) p4] _ _ _ p5 => (as, p1, p2, p3, p4, p5)
  | _ => ([], default, default, default, default, default)
noncomputable def tryH : Pos × Nat × Pos × Pos × Pos := match tryS with
  | .Try _ [.ExceptHandler (some (.Name _ p1)) _ [.Return (some (.Constant _ j p2)) p3] p4] _ _ _ => (p1, j, p2, p3, p4)
  | _ => (default, 0, default, default, default)
theorem tryS_is : tryS = .Try [.Expr (.Call (.Attribute (.Name n_lw tryA.2.1) n_expr tryA.2.2.1) tryA.1 [] tryA.2.2.2.1) tryA.2.2.2.2.1] [.ExceptHandler (some (.Name n_LeftOut tryH.1)) none [.Return (some (.Constant (.bool true) tryH.2.1 tryH.2.2.1)) tryH.2.2.2.1] tryH.2.2.2.2] [] [] tryA.2.2.2.2.2 := by kernel_rfl
theorem lbd_is : lbd = lbd.take 19 ++ tryS :: lbd.drop 20 := by kernel_rfl
end Mine
end
noncomputable section
namespace Mine
open PySem PySem.W PyProof.Rows PySem.Calls
section
variable {w : World} {A : Around} {F : Fm} {m : Ms} {s : Shared} {base : Heap} {x t e g : D} {c0 c1 : Cell} {tl : List Cell}
theorem handle_own {ex : Addr} {l : List Env} {a0 : Value} {p1 p2 p3 p4 : Pos} {j : Nat} {Q : Flow → Shared → Prop} {E : Value → Shared → Prop} (fok : FOk F lsc) (hb : ∀ b o, (wd w).hb.get? b = some o → base.get? b = some o) (f : Heap.FlyingW base l ex (.ref 63) a0 s.heap)
    (hQ : ∀ h', base.StaysIn h' → Q (.ret (.bool true)) { s with heap := h' }) :
    wpAny (model (wd w).prog (wd w).w) A (handleBy (.ref ex) F.env [.ExceptHandler (some (.Name n_LeftOut p1)) none [.Return (some (.Constant (.bool true) j p2)) p3] p4]) Q E s := by
  have hbs : ∀ b o, (wd w).hb.get? b = some o → s.heap.get? b = some o := fun b o q => f.1 b o (hb b o q)
  refine wpAny_handleBy_cons (codeAny_handlers_test (name_LeftOut fok (by kernel_rfl) hbs ?_)) (by intro q; cases q)
  obtain ⟨oe, he, hcls⟩ := f.there
  obtain ⟨nm, q, bs', sn, sub, ab, col, ddc, k0, k1, k2, k3, k5, e0⟩ := o63_is
  have hC := hbs _ _ (fo63 w.params)
  rw [e0] at hC
  obtain ⟨hp, gg, d, tk, os⟩ := s
  refine wpAny_excMatches_sub_self hC he hcls (by simp [bmX]) ?_
  refine codeAny_handlers_suite ?_
  refine wpAny_setFlight_noneW (s := ⟨hp, gg, d, tk, os⟩) f.1 f.2.2.1 f.2.2.2.at fun h' k1 k2 k3 k4 => ?_
  refine wpAny_execs_cons (wpAny_Return_some ?_)
  rw [eval_Constant]
  exact wpAny_pure (hQ h' k1)
theorem try_pre : RunC w 0 (preM lsc (.Name n_lw tryA.2.1) n_expr tryA.1 (lR [x, .cell 0, t, .cell 1, .cell 14, .cell 3, .cell 23, .cell 25, e, .cell 34, g, .cell 37, g]) ⟨PL c0 c1 ++ tl, []⟩) (some (.dat (.tup [.ref 441, .cell 25, eX])), [], ⟨PL c0 c1 ++ tl, []⟩) := fn (by kernel_rfl)
theorem try_ok {r : List Stmt} {Q : Flow → Shared → Prop} {E : Value → Shared → Prop} (ao : AOk 10 A) (hfr : A.frames = some [F.env]) (own : FF F.env) (fok : FOk F lsc) (fr : Fr base [] F m s.heap) (hb : ∀ b o, (wd w).hb.get? b = some o → base.get? b = some o)
    (I : Inv (wd w) F (lR [x, .cell 0, t, .cell 1, .cell 14, .cell 3, .cell 23, .cell 25, e, .cell 34, g, .cell 37, g]) ⟨PL c0 c1 ++ tl, []⟩ m s.heap) (hQ : ∀ h' tk, base.StaysIn h' → Q (.ret (.bool true)) { s with heap := h', toks := tk }) :
    wpAny (model (wd w).prog (wd w).w) A (execs (tryS :: r) F.env) Q E s := by
  rw [tryS_is]
  refine wpAny_execs_cons (wpAny_Try_except (wpAny_execs_cons (wpAny_Expr_any (meth_raise (ao.le (by decide)) fok I (try_pre (w := w)) (by kernel_rfl) fun vs m' s' st I' rs => ?_) (by unfold interactive; rw [fok.kind]; rfl) rfl)))
  refine ex_raise ao hfr own (fr.step I st) I' rs fun v s'' z => ?_
  obtain ⟨ex, tt, h', tk, rfl, rfl, f⟩ := z.after st.same
  refine wpAny_looks_onW (s := { s with heap := h', toks := tk }) hfr own.2 f fun h5 f5 _ => ?_
  refine wpAny_landsW (s := { s with heap := h5, toks := tk }) f5 fun h6 f6 _ => ?_
  exact handle_own (s := { s with heap := h6, toks := tk }) fok hb f6 fun h7 st7 => hQ h7 tk st7
end
section
variable {w : World} {s : Shared} {A0 : Around} {Q : Value → Shared → Prop} {E : Value → Shared → Prop}
theorem law_call (ao : AOk 310 A0) (hfr : A0.frames = some []) (hb : ∀ b o, (wd w).hb.get? b = some o → s.heap.get? b = some o) {sc : List Int} {vs : List Value} (rs : Reps (wd w) [] (fun _ => False) s.heap vs [.lst (sc.map D.int)])
    (hQ : ∀ h' tk, (∀ b o, s.heap.get? b = some o → h'.get? b = some o) → Q (.bool true) { s with heap := h', toks := tk }) :
    wpAny (model (wd w).prog (wd w).w) A0 (PySem.call (.ref 907) vs) Q E s := by
  refine wpAny_call (enter (gk0 w) (fns w (e := (feGet ftab 907).get (by kernel_rfl)) (by kernel_rfl)) (Nat.lt_of_le_of_lt (Nat.le_add_right _ _) ao.depth) hb (by rw [rs.length]; kernel_rfl) fun env h1 tk1 nf => ?_)
  have fok : FOk ⟨env, fun _ => False⟩ lsc := nf.fok _
  obtain ⟨I, fr⟩ := nf.first hb rs (by kernel_rfl)
  have ad : AOk 309 (A0.deeper env) := ao.deeper
  have own : FF env := ⟨by rw [fok.kind]; decide, nf.frame⟩
  obtain ⟨x, t, e, g, c0, c1, tl, run⟩ := law_ok w sc
  show wpAny _ (A0.deeper env) (execs lbd env) _ _ _
  rw [lbd_is]
  have S : SS (wd w) (gG true true true true) 128 (A0.deeper env) lsc ⟨env, fun _ => False⟩ 60 := sound (gk w true true true true) (ad.le (by decide)) 60 fok
  refine s_pre (F := ⟨env, fun _ => False⟩) (s := { s with heap := h1, toks := tk1 }) S I run fun m' s' st I' => ?_
  obtain ⟨h2, tk2, rfl⟩ := st.same
  exact try_ok (F := ⟨env, fun _ => False⟩) (s := { s with heap := h2, toks := tk2 }) (ad.le (by decide)) (Around.frames_deeper hfr) own fok (fr.step (s := { s with heap := h1, toks := tk1 }) I st) hb I' fun h' tk k => hQ h' tk k
end
end Mine
end
noncomputable section
namespace Mine
open PySem PySem.W PyProof.Rows PySem.Calls
theorem pre_len (ds : List WData) (h : H.rw0.row.toRowW.pre.holds H.rw0.row.toRowW.records { args := [.list ds] } = true) : ds.length ≤ 63 := by
  have e : H.rw0.row.toRowW.pre = .and (.not (.lt (.lit (.int 63)) (.len (.arg 0)))) (.lit (.bool true)) := rfl
  rw [e] at h
  unfold WTm.holds at h
  have v : WTm.value H.rw0.row.toRowW.records (.and (.not (.lt (.lit (.int 63)) (.len (.arg 0)))) (.lit (.bool true))) { args := [.list ds] } = (match (WTm.value H.rw0.row.toRowW.records (.not (.lt (.lit (.int 63)) (.len (.arg 0)))) { args := [.list ds] }) with
    | some (.bool false) => some (.bool false)
    | some (.bool true) => some (.bool true)
    | _ => none) := rfl
  have v2 : WTm.value H.rw0.row.toRowW.records (.not (.lt (.lit (.int 63)) (.len (.arg 0)))) { args := [.list ds] } = some (.bool (!decide ((63 : Int) < ds.length))) := rfl
  rw [v, v2] at h
  rcases Nat.lt_or_ge 63 ds.length with q | q
  · have : decide ((63 : Int) < ds.length) = true := decide_eq_true (Int.ofNat_lt.mpr q)
    rw [this] at h
    exact nf h
  · exact q
theorem pre_ints (args : List WData) (h : WShape.hasAll H.rw0.row.toRowW.records args H.rw0.row.toRowW.args = true) : ∃ ds, args = [.list ds] ∧ WShape.hasItems [] ds .int = true := by
  obtain ⟨d, r, rfl, h1, h2⟩ := hasAllW_cons (e := .list .int) (es := []) h
  have := hasAllW_nil h2
  subst this
  cases d with
  | list ds =>
    refine ⟨ds, rfl, ?_⟩
    have h' : (WShape.hasItems [] ds .int || false) = true := h1
    exact (Bool.or_false _).symm.trans h'
  | _ => exact nf h1
theorem reads_ints {X : Wd} {cl : Str → Option Addr} {h : Heap} : ∀ {ds : List WData} {vs : List Value} {as : List Addr}, WShape.hasItems [] ds .int = true → ReadsAllW [] cl h vs ds as → ∃ sc : List Int, sc.length = ds.length ∧ Reps X [] (fun _ => False) h vs (sc.map D.int)
  | [], _, _, _, r => by cases r; exact ⟨[], rfl, rfl⟩
  | d :: ds, _, _, hh, r => by
    cases r with
    | cons r1 r2 =>
      obtain ⟨h1, h2⟩ := Bool.and_eq_true_iff.mp (show (WShape.has [] d .int && WShape.hasItems [] ds .int) = true from hh)
      obtain ⟨sc, l, rs⟩ := reads_ints (X := X) h2 r2
      cases d with
      | int i =>
        cases r1 with
        | int _ t => exact ⟨i :: sc, congrArg Nat.succ l, Reps.cons ⟨t, rfl⟩ rs⟩
      | _ => exact nf h1
theorem look_law (P : Params) : lookS (esOf P 3) (Str.ofString "law") = some (.ref 907) := by kernel_rfl
theorem ao_caller : AOk 310 callerA := ⟨rfl, by decide, by decide⟩
theorem the_call : H.TheCall := by
  intro w s₀ s₁ mg mb G hY a o pm cd doc dV kV ha hd hcr hdf hmg hg args vals as L hpre hlay hrd hwell hsys
  obtain ⟨p1, p2⟩ := pre_splitW hpre
  obtain ⟨ds, rfl, hi⟩ := pre_ints args p1
  have hlen := pre_len ds p2
  have hb : ∀ b o, (wd w).hb.get? b = some o → s₁.heap.get? b = some o := fun b o e => L.keeps b o (by rw [show s₀.heap = H.H1h w.params from hY]; exact e)
  have hns : s₁.heap.Ns mainGlobals (lookS (esOf w.params 3)) := (ns_of (d3 w.params)).keeps hb
  have em := ns_inj G.T.g hns
  have ea : a = 907 := by
    rw [em] at hmg
    have hmg' : lookS (esOf w.params 3) (Str.ofString "law") = some (.ref a) := hmg
    rw [look_law] at hmg'
    cases hmg'; rfl
  subst ea
  have hrd' : ReadsAllW [] (classAt s₀.heap) s₁.heap vals [.list ds] as := hrd
  cases hrd' with
  | @cons v vs _ _ as1 as2 r1 r2 =>
    cases r2
    cases r1 with
    | @list b ob vs n _ as' e1 e2 e3 e4 =>
      obtain ⟨sc, l, rs⟩ := reads_ints (X := wd w) hi e4
      have rep : Reps (wd w) [] (fun _ => False) s₁.heap [.ref b] [.lst (sc.map D.int)] :=
        Reps.cons (.mk (a := b) (vs := vs.toList) rfl (fun f => f) ⟨ob, e1, e2, n, by rw [e3]⟩ (by rw [sizeLine_eq, List.length_map, l]; exact Nat.le_trans hlen (by decide)) rs) rfl
      refine law_call ao_caller rfl hb rep fun h' tk kept => ?_
      refine GoodW.toG ⟨.inl ⟨_, .bool true, [], rfl, fun _ => rfl, .bool true, ?_, fun _ => ⟨List.nodup_nil, fun _ m => by cases m⟩⟩, kept, rfl, hg⟩
      exact postW_of (by kernel_rfl) (X := true) (by kernel_rfl) rfl
end Mine
theorem PySem.Challenge.cw_sa0247_01_holds : PySem.Challenge.rw_sa0247_01.Holds :=
  Mine.H.head Mine.the_call
