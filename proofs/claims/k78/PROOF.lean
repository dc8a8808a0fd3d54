import PyProof.Rows.All
import Wide.All
import OpenK.AllK
import Wide.FinOn
import HandS.ForMost
import HandS.Flow
import HandS.Exc
import HandS.TryOnly
import HandS.Lambda
import HandS.Walk
import HandS.Zip
import HandS.Strs
import KE.DataEq
import KE.DataAny
import KE.SortData
import PyProof.ReprReads
import HandS.TupAny
import HandS.TupMul
import HandS.Wide
import HandS.Style
import HandS.Small
import HandS.RaiseMore
import HandS.More
import HandS.IsInst
import HandS.Conv
import KE.KRevSl
import HandS.SetFor
import KE.GoesEnum
import KE.KExcIs
import HandS.ExcIs
import HandS.ExcField
import HandS.ExcInit
import HandS.ExcSuper
import HandS.EndTab
import HandS.HeadWalk
import HandS.Defaults
import HandS.Head0
import HandS.Head1
import HandS.Head2
import HandS.HeadHook1
import HandS.HeadHook2
import HandS.HeadHook3
import HandS.HeadHook4
import PyProof.ReprLen
import PySem.Challenge.RW_howmanyslips_k78_refusals_of_goals

-- text EvVal
section
set_option Elab.async false
set_option linter.all false
set_option maxRecDepth 100000

/-! The evaluator: values, cells, results, what the operations give. -/
namespace HS
open PySem
abbrev Key := L2.Key

inductive PV where
  | non | bl (b : Bool) | int (i : Int) | str (s : Str)
  | tup (xs : List PV) | lst (xs : List PV) | dK (kvs : List (Key × PV)) | dT (kvs : List (List Key × PV)) | set (xs : List Int)
  | scr (ns : List Int) | rng (lo hi : Int) | ref (k : Nat) | fn (x : Str) | exc (c : Str) (fs : List (Str × PV)) | cb
instance : Inhabited PV := ⟨.non⟩

/-- what may change: a list, a dict, an instance -/
inductive Cell where
  | lst (xs : List PV) | dK (kvs : List (Key × PV)) | dT (kvs : List (List Key × PV)) | ins (c : Str) (fs : List (Str × PV))

abbrev Hv := List Cell
inductive Res (α : Type) where
  | ok (a : α) (h : Hv) | exc (e : PV) (h : Hv) | stuck
/-- a run that may change the cells -/
def M (α : Type) := Hv → Res α
def M.ret {α : Type} (a : α) : M α := fun h => .ok a h
def M.bnd {α β : Type} (x : M α) (f : α → M β) : M β := fun h => match x h with
  | .ok a h' => f a h'
  | .exc e h' => .exc e h'
  | .stuck => .stuck
def M.stk {α : Type} : M α := fun _ => .stuck
def M.ofO {α : Type} (o : Option α) : M α := fun h => match o with
  | some a => .ok a h
  | none => .stuck
abbrev Sg := List (Option PV)
/-- an expression's meaning -/
abbrev ES := Sg → M PV

/-! ### looking at values -/
def cellL (h : Hv) (k : Nat) : Option (List PV) := match h[k]? with
  | some (.lst xs) => some xs
  | _ => none
def cellK (h : Hv) (k : Nat) : Option (List (Key × PV)) := match h[k]? with
  | some (.dK kvs) => some kvs
  | _ => none
def lstOf (h : Hv) : PV → Option (List PV)
  | .lst xs => some xs
  | .ref k => cellL h k
  | _ => none
def seqOf (h : Hv) : PV → Option (List PV)
  | .tup xs => some xs
  | .scr ns => some (ns.map .int)
  | v => lstOf h v
def dKOf (h : Hv) : PV → Option (List (Key × PV))
  | .dK kvs => some kvs
  | .ref k => cellK h k
  | _ => none
def keyOf : PV → Option Key
  | .int i => some (.inl i)
  | .str x => some (.inr x)
  | _ => none
def keyV : Key → PV
  | .inl i => .int i
  | .inr x => .str x
def valOf {κ : Type} [DecidableEq κ] (kvs : List (κ × PV)) (k : κ) : Option PV := (kvs.find? fun kv => decide (kv.1 = k)).map (·.2)
def putOf {κ : Type} [DecidableEq κ] (kvs : List (κ × PV)) (k : κ) (v : PV) : List (κ × PV) :=
  if (valOf kvs k).isSome then kvs.map fun kv => if kv.1 = k then (kv.1, v) else kv else kvs ++ [(k, v)]
mutual
/-- plain data, as the library tells them -/
def toD : PV → Option PyData
  | .non => some .none
  | .bl b => some (.bool b)
  | .int i => some (.int i)
  | .str s => some (.str s)
  | .tup xs => (toDs xs).map PyData.tuple
  | .lst xs => (toDs xs).map PyData.list
  | .scr _ | .dK _ | .dT _ | .set _ | .rng _ _ | .ref _ | .fn _ | .exc _ _ | .cb => none
def toDs : List PV → Option (List PyData)
  | [] => some []
  | x :: xs => match toD x, toDs xs with
    | some d, some ds => some (d :: ds)
    | _, _ => none
end
def toDh (h : Hv) : PV → Option PyData
  | .ref k => (cellL h k).bind fun xs => (toDs xs).map PyData.list
  | v => toD v
def truthOf (h : Hv) : PV → Option Bool
  | .non => some false
  | .bl b => some b
  | .int i => some (i != 0)
  | .str s => if s.length ≤ sizeLine then some ((s.length : Int) != 0) else none
  | v => match seqOf h v with
    | some xs => some (!xs.isEmpty)
    | none => none

/-! ### making -/
/-- a new list: a cell where it will change, a value elsewhere -/
def mkL (m : Bool) (xs : List PV) : M PV := fun h => if xs.length ≤ sizeLine then (if m then .ok (.ref h.length) (h ++ [.lst xs]) else .ok (.lst xs) h) else .stuck
def mkT (xs : List PV) : M PV := fun h => if xs.length ≤ sizeLine then .ok (.tup xs) h else .stuck
def mkK (m : Bool) (kvs : List (Key × PV)) : M PV := fun h => if kvs.length ≤ sizeLine then (if m then .ok (.ref h.length) (h ++ [.dK kvs]) else .ok (.dK kvs) h) else .stuck

/-! ### operators -/
def bAdd (m : Bool) (v w : PV) : M PV := fun h => match v with
  | .int a => (match w with
    | .int b => .ok (.int (a + b)) h
    | _ => .stuck)
  | .str a => (match w with
    | .str b => if a.length + b.length ≤ sizeLine then .ok (.str (a ++ b)) h else .stuck
    | _ => .stuck)
  | .tup a => (match w with
    | .tup b => mkT (a ++ b) h
    | _ => .stuck)
  | v => match lstOf h v with
    | some a => (match lstOf h w with
      | some b => mkL m (a ++ b) h
      | none => .stuck)
    | none => .stuck
def bSub (v w : PV) : M PV := fun h => match v with
  | .int a => (match w with
    | .int b => .ok (.int (a - b)) h
    | _ => .stuck)
  | _ => .stuck
def bMul (m : Bool) (v w : PV) : M PV := fun h => match w with
  | .int b => (match v with
    | .int a => if (-(2 ^ 64) < a ∧ a < 2 ^ 64) ∨ (-(2 ^ 64) < b ∧ b < 2 ^ 64) then .ok (.int (a * b)) h else .stuck
    | .tup a => if a.isEmpty = false ∧ 2 ≤ b ∧ b ≤ 1000 ∧ a.length ≤ 1000 then .ok (.tup (List.replicate b.toNat a).flatten) h else .stuck
    | v => match lstOf h v with
      | some a => if a.length * b.toNat ≤ sizeLine ∧ -(2 ^ 63) ≤ b ∧ b < 2 ^ 63 then mkL m (List.replicate b.toNat a).flatten h else .stuck
      | none => .stuck)
  | _ => .stuck
def bDiv (v w : PV) : M PV := fun h => match v with
  | .int a => (match w with
    | .int b => if 0 < b ∧ b < 2 ^ 9000 then .ok (.int (a / b)) h else .stuck
    | _ => .stuck)
  | _ => .stuck
def bMod (v w : PV) : M PV := fun h => match v with
  | .int a => (match w with
    | .int b => if 0 < b then .ok (.int (a % b)) h else .stuck
    | _ => .stuck)
  | _ => .stuck
def bPow (v w : PV) : M PV := fun h => match v with
  | .int a => (match w with
    | .int b => if 0 ≤ b ∧ b ≤ 1000000 ∧ a.natAbs < 2 ^ 64 then .ok (.int (a ^ b.toNat)) h else .stuck
    | _ => .stuck)
  | _ => .stuck
def bAnd (v w : PV) : M PV := fun h => match v with
  | .int a => (match w with
    | .int b => .ok (.int (Builtin.bitAnd a b)) h
    | _ => .stuck)
  | _ => .stuck
def uNeg (v : PV) : M PV := fun h => match v with
  | .int a => .ok (.int (-a)) h
  | _ => .stuck
def binD (m : Bool) : Operator → Option (PV → PV → M PV)
  | .Add => some (bAdd m)
  | .Sub => some bSub
  | .Mult => some (bMul m)
  | .FloorDiv => some bDiv
  | .Mod => some bMod
  | .Pow => some bPow
  | .BitAnd => some bAnd
  | _ => none

/-! ### comparisons -/
def eqB (h : Hv) (v w : PV) : Option Bool := match toDh h v, toDh h w with
  | some d, some e => if min d.depth e.depth ≤ 100 then some (PyData.eqv d e) else none
  | _, _ => none
def cEq (v w : PV) : M PV := fun h => M.ofO ((eqB h v w).map PV.bl) h
def cNe (v w : PV) : M PV := fun h => M.ofO ((eqB h v w).map fun b => PV.bl (!b)) h
/-- an order: of ints by f, of other data by g -/
def ordB (f : Int → Int → Bool) (g : PyData → PyData → Bool) (h : Hv) (v w : PV) : Option Bool := match v with
  | .int a => (match w with
    | .int b => some (f a b)
    | _ => none)
  | .non => none
  | v => match toDh h v with
    | some d => (match toDh h w with
      | some e => if min d.depth e.depth ≤ 100 ∧ PySem.W.alike d e = true then some (g d e) else none
      | none => none)
    | none => none
def cLt (v w : PV) : M PV := fun h => M.ofO ((ordB (fun a b => decide (a < b)) PySem.W.dataLt h v w).map PV.bl) h
def cGt (v w : PV) : M PV := fun h => M.ofO ((ordB (fun a b => decide (b < a)) (fun d e => PySem.W.dataLt e d) h v w).map PV.bl) h
def cLe (v w : PV) : M PV := fun h => M.ofO ((ordB (fun a b => decide (a ≤ b)) (fun d e => !PySem.W.dataLt e d) h v w).map PV.bl) h
def cGe (v w : PV) : M PV := fun h => M.ofO ((ordB (fun a b => decide (b ≤ a)) (fun d e => !PySem.W.dataLt d e) h v w).map PV.bl) h
/-- v in w -/
def inB (h : Hv) (v w : PV) : Option Bool := match w with
  | .str t => (match v with
    | .str s => some (!(Builtin.Str.occurrences t s 0 t.length 1).isEmpty)
    | _ => none)
  | .set xs => (match v with
    | .int i => some (decide (i ∈ xs))
    | _ => none)
  | w => match seqOf h w with
    | some xs => (match toDh h v with
      | some d => (match toDs xs with
        | some ds => if d.depth ≤ 100 then some (ds.any fun e => PyData.eqv e d) else none
        | none => none)
      | none => none)
    | none => (match dKOf h w with
      | some kvs => (keyOf v).map fun k => (valOf kvs k).isSome
      | none => none)
def cIn (v w : PV) : M PV := fun h => M.ofO ((inB h v w).map PV.bl) h
def cNotIn (v w : PV) : M PV := fun h => M.ofO ((inB h v w).map fun b => PV.bl (!b)) h
/-- v is w: of None and of bools alone -/
def isB (v w : PV) : Option Bool := match w with
  | .non => (match v with
    | .non => some true
    | .exc _ _ => none
    | _ => some false)
  | .bl b => (match v with
    | .bl a => some (decide (a = b))
    | _ => none)
  | _ => none
def cIs (v w : PV) : M PV := M.ofO ((isB v w).map PV.bl)
def cIsNot (v w : PV) : M PV := M.ofO ((isB v w).map fun b => PV.bl (!b))
def cmpD : CmpOp → PV → PV → M PV
  | .Eq => cEq
  | .NotEq => cNe
  | .Lt => cLt
  | .LtE => cLe
  | .Gt => cGt
  | .GtE => cGe
  | .Is => cIs
  | .IsNot => cIsNot
  | .In => cIn
  | .NotIn => cNotIn

/-! ### items, slices -/
def ixB (h : Hv) (v i : PV) : Option PV := match seqOf h v with
  | some xs => (match i with
    | .int n => L2.atI xs n
    | _ => none)
  | none => match dKOf h v with
    | some kvs => (keyOf i).bind fun k => valOf kvs k
    | none => match v with
      | .str s => (match i with
        | .int n => if s.length ≤ sizeLine then (L2.atI s.cps.toList n).map fun c => .str ⟨#[c]⟩ else none
        | _ => none)
      | _ => none
def sIx (v i : PV) : M PV := fun h => M.ofO (ixB h v i) h
def cutP (xs : List PV) (lo hi : Option Int) : List PV := (xs.drop (HT.sIx xs.length 0 lo)).take (HT.sIx xs.length xs.length hi - HT.sIx xs.length 0 lo)
def sSlice (m : Bool) (v : PV) (lo hi : Option Int) : M PV := fun h => match v with
  | .tup xs => .ok (.tup (cutP xs lo hi)) h
  | .scr ns => mkL m (cutP (ns.map .int) lo hi) h
  | v => match lstOf h v with
    | some xs => mkL m (cutP xs lo hi) h
    | none => .stuck
/-- v[::-1] -/
def sRev (m : Bool) (v : PV) : M PV := fun h => match v with
  | .tup xs => .ok (.tup xs.reverse) h
  | v => match lstOf h v with
    | some xs => mkL m xs.reverse h
    | none => .stuck

/-! ### built-ins by value -/
def intsOf : List PV → Option (List Int)
  | [] => some []
  | .int i :: xs => (intsOf xs).map (i :: ·)
  | _ :: _ => none
def blsOf : List PV → Option (List Bool)
  | [] => some []
  | .bl b :: xs => (blsOf xs).map (b :: ·)
  | _ :: _ => none
def lenB (h : Hv) : PV → Option Nat
  | .str s => if s.length ≤ sizeLine then some s.length else none
  | v => match seqOf h v with
    | some xs => some xs.length
    | none => (dKOf h v).map List.length
def natV (n : Nat) : PV := .int (n : Int)
def rgP (lo hi : Int) : List PV := (List.range (hi - lo).toNat).map fun i => .int (lo + (i : Nat))
def insI (x : Int) : List Int → List Int
  | [] => [x]
  | y :: ys => if x < y then x :: y :: ys else if x = y then y :: ys else y :: insI x ys
/-- the members, each once, ascending -/
def srtI (xs : List Int) : List Int := xs.foldr insI []
/-- a value as data -/
def encP (v : PV) : PyData := (toD v).getD .none
open Classical in
/-- the items in order, by the library's own order of data -/
noncomputable def srtP (xs : List PV) : Option (List PV) :=
  if (toDs xs).isSome = true ∧ PySem.W.AllAlike (xs.map encP) ∧ PySem.W.Sortable (xs.map encP) ∧ (∀ x ∈ xs, (encP x).depth ≤ 100) then some (xs.mergeSort (PySem.W.dataLe false encP)) else none
/-- sorted(v) -/
noncomputable def bSorted (m : Bool) (v : PV) : M PV := fun h => match v with
  | .set xs => if xs.length < 64 then mkL m ((srtI xs).map .int) h else .stuck
  | v => match lstOf h v with
    | none => .stuck
    | some xs => match srtP xs with
      | some ys => mkL m ys h
      | none => .stuck
def bLen (v : PV) : M PV := fun h => match lenB h v with
  | some n => .ok (natV n) h
  | none => .stuck
def bAll (v : PV) : M PV := fun h => match (lstOf h v).bind blsOf with
  | some bs => .ok (.bl (bs.all id)) h
  | none => .stuck
def bAny (v : PV) : M PV := fun h => match (lstOf h v).bind blsOf with
  | some bs => .ok (.bl (bs.any id)) h
  | none => .stuck
def bTuple (v : PV) : M PV := fun h => match v with
  | .tup xs => .ok (.tup xs) h
  | v => match lstOf h v with
    | some xs => mkT xs h
    | none => .stuck
def bList (m : Bool) (v : PV) : M PV := fun h => match seqOf h v with
  | some xs => mkL m xs h
  | none => (match dKOf h v with
    | some kvs => mkL m (kvs.map fun kv => keyV kv.1) h
    | none => .stuck)
/-- tuple(range(n)), list(range(n)) -/
def bTupRg (v : PV) : M PV := fun h => match v with
  | .int n => if -(2 ^ 62) ≤ n ∧ n ≤ 16777216 then .ok (.tup (rgP 0 n)) h else .stuck
  | _ => .stuck
def bLstRg (m : Bool) (v : PV) : M PV := fun h => match v with
  | .int n => if -(2 ^ 62) ≤ n ∧ n ≤ 16777216 then mkL m (rgP 0 n) h else .stuck
  | _ => .stuck
def bSet (v : PV) : M PV := fun h => match (lstOf h v).bind intsOf with
  | some ns => if ns.length ≤ 1000 then .ok (.set ns) h else .stuck
  | none => .stuck
def bInt (v : PV) : M PV := fun h => match v with
  | .int i => .ok (.int i) h
  | .bl b => .ok (.int (if b then 1 else 0)) h
  | _ => .stuck
/-- a pair of a key and its value -/
def pairOf : PV → Option (Key × PV)
  | .tup [k, v] => (keyOf k).map fun c => (c, v)
  | _ => none
def pairsOf : List PV → Option (List (Key × PV))
  | [] => some []
  | x :: xs => match pairOf x, pairsOf xs with
    | some p, some ps => some (p :: ps)
    | _, _ => none
/-- {k: v, ..} with keys that differ -/
def pairUp (kvs : List (Key × PV)) : List (Key × PV) := kvs.foldl (fun acc kv => putOf acc kv.1 kv.2) []
/-- dict(v), v a list of pairs -/
def bDict (m : Bool) (v : PV) : M PV := fun h => match (lstOf h v).bind pairsOf with
  | some kvs => mkK m (pairUp kvs) h
  | none => .stuck
def bStr (v : PV) : M PV := fun h => match v with
  | .int i => if i.natAbs.log2 < 1920 then .ok (.str (toString i)) h else .stuck
  | .str s => .ok (.str s) h
  | _ => .stuck
/-- data as repr shows them -/
def reprD (h : Hv) : PV → Option PyData
  | .dK [] => some (.dict [])
  | v => toDh h v
def bRepr (v : PV) : M PV := fun h => match reprD h v with
  | some d => if d.showable = true ∧ d.shown.length ≤ sizeLine ∧ d.depth ≤ 100 then .ok (.str d.shown) h else .stuck
  | none => .stuck
/-- a built-in of one argument, by its name -/
noncomputable def b1D (m : Bool) (f : Str) : Option (PV → M PV) :=
  if f = "len" then some bLen
  else if f = "all" then some bAll
  else if f = "any" then some bAny
  else if f = "tuple" then some bTuple
  else if f = "list" then some (bList m)
  else if f = "sorted" then some (bSorted m)
  else if f = "set" then some bSet
  else if f = "int" then some bInt
  else if f = "str" then some bStr
  else if f = "repr" then some bRepr
  else if f = "dict" then some (bDict m)
  else none
def bMax2 (v w : PV) : M PV := fun h => match v with
  | .int a => (match w with
    | .int b => .ok (.int (max a b)) h
    | _ => .stuck)
  | _ => .stuck
def bMin2 (v w : PV) : M PV := fun h => match v with
  | .int a => (match w with
    | .int b => .ok (.int (min a b)) h
    | _ => .stuck)
  | _ => .stuck
def b2D (f : Str) : Option (PV → PV → M PV) :=
  if f = "max" then some bMax2
  else if f = "min" then some bMin2
  else none
/-- the built-in class of a value -/
def tyB (h : Hv) : PV → Option String
  | .non => some "NoneType"
  | .bl _ => some "bool"
  | .int _ => some "int"
  | .str _ => some "str"
  | .tup _ => some "tuple"
  | .lst _ => some "list"
  | .dK _ => some "dict"
  | .ref k => match h[k]? with
    | some (.lst _) => some "list"
    | some (.dK _) => some "dict"
    | _ => none
  | _ => none
/-- isinstance(v, c), c a built-in class -/
def bIsi (c : String) (v : PV) : M PV := fun h => match tyB h v with
  | some t => .ok (.bl (t == c || (t == "bool" && c == "int"))) h
  | none => .stuck
def isiD (f : Str) : Option String :=
  if f = "int" then some "int"
  else if f = "bool" then some "bool"
  else if f = "tuple" then some "tuple"
  else if f = "str" then some "str"
  else if f = "list" then some "list"
  else if f = "dict" then some "dict"
  else none

/-! ### methods, stores -/
def setC (h : Hv) (k : Nat) (c : Cell) : Hv := h.set k c
/-- the list in a receiver's cell -/
def recvL (h : Hv) : PV → Option (Nat × List PV)
  | .ref k => (cellL h k).map fun xs => (k, xs)
  | _ => none
def mAppend (o : PV) (as : List PV) : M PV := fun h => match recvL h o with
  | some (k, xs) => (match as with
    | [v] => if xs.length < sizeLine then .ok .non (setC h k (.lst (xs ++ [v]))) else .stuck
    | _ => .stuck)
  | none => .stuck
def mPop (o : PV) (as : List PV) : M PV := fun h => match recvL h o with
  | some (k, xs) => (match as with
    | [] => (match xs[xs.length - 1]? with
      | some y => .ok y (setC h k (.lst xs.dropLast))
      | none => .stuck)
    | [.int i] => if -(2 ^ 63) ≤ i ∧ i < 2 ^ 63 then (match seqIndex? i xs.length with
      | some j => (match xs[j]? with
        | some y => .ok y (setC h k (.lst (xs.eraseIdx j)))
        | none => .stuck)
      | none => .stuck) else .stuck
    | _ => .stuck)
  | none => .stuck
def mExtend (o : PV) (as : List PV) : M PV := fun h => match recvL h o with
  | some (k, xs) => (match as with
    | [v] => (match lstOf h v with
      | some ys => if xs.length + ys.length ≤ sizeLine then .ok .non (setC h k (.lst (xs ++ ys))) else .stuck
      | none => .stuck)
    | _ => .stuck)
  | none => .stuck
/-- methods of lists -/
def methL (f : Str) : Option (PV → List PV → M PV) :=
  if f = "append" then some mAppend
  else if f = "pop" then some mPop
  else if f = "extend" then some mExtend
  else none
def setItem (o i v : PV) : M Unit := fun h => match o with
  | .ref k => (match h[k]? with
    | some (.lst xs) => (match i with
      | .int n => (match L2.ixN xs.length n with
        | some j => .ok () (setC h k (.lst (xs.set j v)))
        | none => .stuck)
      | _ => .stuck)
    | some (.dK kvs) => (match keyOf i with
      | some c => if kvs.length < sizeLine then .ok () (setC h k (.dK (putOf kvs c v))) else .stuck
      | none => .stuck)
    | _ => .stuck)
  | _ => .stuck
end HS
end
-- text EvDen
section
set_option Elab.async false
set_option linter.all false
set_option maxRecDepth 100000

/-! The meaning of expressions and statements: Lean functions read off the syntax tree. -/
namespace HS
open PySem

/-- what a name of the top is -/
inductive GK where
  | fn (ps : List Str) | exc (ps : List Str) | hof | cst (v : PV) | no
/-- what the reading of a text leans on -/
structure DC where
  N : List Str
  sc : Scope
  G : Str → Option GK
  call : Str → List PV → M PV
  callT : Str → M PV → M PV
  calm : Bool
  own : Str → Bool
  mu : Pos → Bool
  /-- what may be asked of the frames around: repr of lists -/
  gd : Bool
  /-- the defs that ask it -/
  gn : Str → Bool
  /-- the orders of keywords that are told -/
  kws : Str → List Str → Bool
  /-- how deep a def calls, how deep one may call here -/
  lv : Str → Nat
  k : Nat
  /-- within an except suite: the exception's name -/
  ex : Option Str
  /-- whether a class is another one or below it -/
  sub : Str → Str → Option Bool
  /-- the classes that may be caught, the fields that may be read -/
  kl : Str → Bool
  fl : Str → Bool
  /-- the classes that a clause may name; whether try may stand here -/
  ct : Str → Bool
  tr : Bool
  /-- the parameter that is called, what it gives -/
  cb : Option (Str × M PV)

/-! ### expressions: combinators -/
def eVar (i : Nat) : ES := fun σ h => match σ[i]? with
  | some (some v) => .ok v h
  | _ => .stuck
def eCst (v : PV) : ES := fun _ => .ret v
def eBin (f : PV → PV → M PV) (a b : ES) : ES := fun σ => (a σ).bnd fun x => (b σ).bnd fun y => f x y
def eUn (f : PV → M PV) (a : ES) : ES := fun σ => (a σ).bnd f
/-- the truth of a value -/
def truthM (v : PV) : M Bool := fun h => M.ofO (truthOf h v) h
def eOr (a b : ES) : ES := fun σ => (a σ).bnd fun x => (truthM x).bnd fun t => if t then .ret x else b σ
def eAnd (a b : ES) : ES := fun σ => (a σ).bnd fun x => (truthM x).bnd fun t => if t then b σ else .ret x
def eNot (a : ES) : ES := fun σ => (a σ).bnd fun x => (truthM x).bnd fun t => .ret (.bl (!t))
abbrev TSm := Sg → M Bool
def tVal (a : ES) : TSm := fun σ => (a σ).bnd truthM
/-- a value that is a bool, as a test -/
def tBl (a : ES) : TSm := fun σ => (a σ).bnd fun x => match x with
  | .bl b => .ret b
  | _ => .stk
def tAnd (a b : TSm) : TSm := fun σ => (a σ).bnd fun t => if t then b σ else .ret false
def tOr (a b : TSm) : TSm := fun σ => (a σ).bnd fun t => if t then .ret true else b σ
def tNot (a : TSm) : TSm := fun σ => (a σ).bnd fun t => .ret (!t)
def eIf (t : TSm) (a b : ES) : ES := fun σ => (t σ).bnd fun t => if t then a σ else b σ
/-- a op b op' c -/
def eChain (f g : PV → PV → M PV) (a b c : ES) : ES := fun σ => (a σ).bnd fun x => (b σ).bnd fun y => (f x y).bnd fun r => match r with
  | .bl true => (c σ).bnd fun z => (g y z).bnd fun r => match r with
    | .bl t => .ret (.bl t)
    | _ => .stk
  | .bl false => .ret (.bl false)
  | _ => .stk
/-- several, from the left -/
def eAll : List ES → Sg → M (List PV)
  | [] => fun _ => .ret []
  | a :: as => fun σ => (a σ).bnd fun x => (eAll as σ).bnd fun xs => .ret (x :: xs)
def eTup (as : List ES) : ES := fun σ => (eAll as σ).bnd mkT
def eLst (m : Bool) (as : List ES) : ES := fun σ => (eAll as σ).bnd (mkL m)
def eCall (f : List PV → M PV) (as : List ES) : ES := fun σ => (eAll as σ).bnd f
def eCall1 (f : PV → M PV) (a : ES) : ES := fun σ => (a σ).bnd f
def eCall2 (f : PV → PV → M PV) (a b : ES) : ES := fun σ => (a σ).bnd fun x => (b σ).bnd fun y => f x y
/-- o.m(..), o a list in a cell -/
def eMeth (f : PV → List PV → M PV) (o : ES) (as : List ES) : ES := fun σ => (o σ).bnd fun x h => match recvL h x with
  | some _ => ((eAll as σ).bnd fun xs => f x xs) h
  | none => .stuck
/-- a part of a slice: an int, or left out -/
def ePart (a : ES) : Sg → M (Option Int) := fun σ => (a σ).bnd fun x => match x with
  | .int i => .ret (some i)
  | _ => .stk
def eNoPart : Sg → M (Option Int) := fun _ => .ret none
def eSlice (m : Bool) (o : ES) (l u : Sg → M (Option Int)) : ES := fun σ => (o σ).bnd fun x => (l σ).bnd fun i => (u σ).bnd fun j => sSlice m x i j
def eDisp (m : Bool) : List (ES × ES) → Sg → List (Key × PV) → M PV
  | [] => fun _ acc => mkK m (pairUp acc)
  | (k, v) :: r => fun σ acc => (k σ).bnd fun x => match keyOf x with
    | some c => (v σ).bnd fun y => eDisp m r σ (acc ++ [(c, y)])
    | none => .stk

/-! ### walks -/
/-- what a walk goes over: its items, and the lists in cells that must stand as they are -/
abbrev Src := List (Nat × List PV)
abbrev IS := Sg → M (List PV × Src)
def srcOk (h : Hv) (s : Src) : Prop := ∀ p ∈ s, cellL h p.1 = some p.2
def seqS (h : Hv) : PV → Option (List PV × Src)
  | .tup xs => some (xs, [])
  | .lst xs => some (xs, [])
  | .scr ns => some (ns.map .int, [])
  | .ref k => (cellL h k).map fun xs => (xs, [(k, xs)])
  | _ => none
def iSeq (a : ES) : IS := fun σ => (a σ).bnd fun x h => M.ofO (seqS h x) h
def rgOk (a b : Int) : Prop := -(2 ^ 62) ≤ a ∧ a < 2 ^ 62 ∧ -(2 ^ 62) ≤ b ∧ b < 2 ^ 62
instance (a b : Int) : Decidable (rgOk a b) := by unfold rgOk; infer_instance
def iRng1 (a : ES) : IS := fun σ => (a σ).bnd fun x => match x with
  | .int n => if rgOk 0 n then .ret (rgP 0 n, []) else .stk
  | _ => .stk
def iRng2 (a b : ES) : IS := fun σ => (a σ).bnd fun x => (b σ).bnd fun y => match x, y with
  | .int n, .int k => if rgOk n k then .ret (rgP n k, []) else .stk
  | _, _ => .stk
def enumP (xs : List PV) : List PV := (List.range xs.length).map fun i => .tup [.int (i : Nat), xs.getD i .non]
def zipP (xs ys : List PV) : List PV := List.zipWith (fun x y => .tup [x, y]) xs ys
def iEnum (a : ES) : IS := fun σ => (a σ).bnd fun x h => M.ofO ((seqS h x).map fun p => (enumP p.1, p.2)) h
def isT : PV → Bool
  | .tup _ => true
  | _ => false
/-- of two lists, or of two tuples -/
def iZip (a b : ES) : IS := fun σ => (a σ).bnd fun x => (b σ).bnd fun y h => if isT x = isT y then (match seqS h x with
  | some p => (match seqS h y with
    | some q => .ok (zipP p.1 q.1, p.2 ++ q.2) h
    | none => .stuck)
  | none => .stuck) else .stuck
/-- a target: what the slots are behind the store -/
abbrev TGt := PV → Sg → Option Sg
def gNm (i : Nat) : TGt := fun v σ => some (σ.set i (some v))
def gAll : List TGt → List PV → Sg → Option Sg
  | [], [] => fun σ => some σ
  | g :: gs, v :: vs => fun σ => (g v σ).bind fun σ' => gAll gs vs σ'
  | _, _ => fun _ => none
def gTp (gs : List TGt) : TGt := fun v σ => match v with
  | .tup xs => gAll gs xs σ
  | _ => none
def wipeS (σ : Sg) : List Nat → Sg
  | [] => σ
  | v :: vs => (wipeS σ vs).set v none
/-- nothing is raised -/
def M.nox {α : Type} (x : M α) : M α := fun h => match x h with
  | .exc _ _ => .stuck
  | r => r
open Classical in
/-- the turns of a comprehension -/
noncomputable def compL (src : Src) (g : TGt) (t : TSm) (e : ES) (σ : Sg) : List PV → M (List PV)
  | [] => fun h => if srcOk h src then .ok [] h else .stuck
  | x :: xs => fun h => if srcOk h src then (match g x σ with
    | some σ' => (((t σ').nox).bnd fun b => if b then ((e σ').nox).bnd fun y => (compL src g t e σ xs).bnd fun ys => .ret (y :: ys) else compL src g t e σ xs) h
    | none => .stuck) else .stuck
noncomputable def eComp (m : Bool) (own : List Nat) (it : IS) (g : TGt) (t : TSm) (e : ES) : ES := fun σ => (it σ).bnd fun p => (compL p.2 g t e (wipeS σ own) p.1).bnd (mkL m)
def tYes : TSm := fun _ => .ret true

/-! ### statements: combinators -/
inductive SR where
  | nx (σ : Sg) (h : Hv) | ret (v : PV) (h : Hv) | brk (σ : Sg) (h : Hv) | ct (σ : Sg) (h : Hv) | exc (e : PV) (h : Hv) | stuck
abbrev SS := Sg → Hv → SR
def SR.then (r : SR) (f : SS) : SR := match r with
  | .nx σ h => f σ h
  | r => r
/-- a value, then a statement's rest -/
def M.thn {α : Type} (x : M α) (f : α → Hv → SR) : Hv → SR := fun h => match x h with
  | .ok a h' => f a h'
  | .exc e h' => .exc e h'
  | .stuck => .stuck
def sNil : SS := fun σ h => .nx σ h
def sSeq (a b : SS) : SS := fun σ h => (a σ h).then b
def sBrk : SS := fun σ h => .brk σ h
def sCt : SS := fun σ h => .ct σ h
def sRet (e : ES) : SS := fun σ => (e σ).thn fun v h => .ret v h
def sRetN : SS := fun _ h => .ret .non h
def sExpr (e : ES) : SS := fun σ => (e σ).thn fun _ h => .nx σ h
/-- a store into slots -/
def sAsg (g : TGt) (e : ES) : SS := fun σ => (e σ).thn fun v h => match g v σ with
  | some σ' => .nx σ' h
  | none => .stuck
/-- a, b = x, y -/
def sPar (g : List PV → Sg → Option Sg) (es : List ES) : SS := fun σ => (eAll es σ).thn fun vs h => match g vs σ with
  | some σ' => .nx σ' h
  | none => .stuck
def sPut (o i v : ES) : SS := fun σ => (v σ).thn fun z => (o σ).thn fun x => (i σ).thn fun y => (setItem x y z).thn fun _ h => .nx σ h
def sIf (t : TSm) (a b : SS) : SS := fun σ => (t σ).thn fun t h => if t then a σ h else b σ h
open Classical in
noncomputable def forL (src : Src) (g : TGt) (b : SS) : List PV → SS
  | [] => fun σ h => if srcOk h src then .nx σ h else .stuck
  | x :: xs => fun σ h => if srcOk h src then (match g x σ with
    | some σ' => (match b σ' h with
      | .nx σ2 h2 => forL src g b xs σ2 h2
      | .ct σ2 h2 => forL src g b xs σ2 h2
      | .brk σ2 h2 => .nx σ2 h2
      | r => r)
    | none => .stuck) else .stuck
noncomputable def sFor (it : IS) (g : TGt) (b : SS) : SS := fun σ => (it σ).thn fun p => forL p.2 g b p.1 σ
def whileL (t : TSm) (b : SS) : Nat → SS
  | 0 => fun _ _ => .stuck
  | n + 1 => fun σ => (t σ).thn fun c h => if c then (match b σ h with
      | .nx σ2 h2 => whileL t b n σ2 h2
      | .ct σ2 h2 => whileL t b n σ2 h2
      | .brk σ2 h2 => .nx σ2 h2
      | r => r) else .nx σ h
/-- more turns than any of these loops takes -/
def turnsMost : Nat := 1000000000
def sWhile (t : TSm) (b : SS) : SS := whileL t b turnsMost
/-- raise C(..) -/
def sRaise (c : Str) (ps : List Str) (es : List ES) : SS := fun σ => (eAll es σ).thn fun vs h => if vs.length = ps.length then .exc (.exc c (ps.zip vs)) h else .stuck

/-! ### reading the tree -/
def mapO {α β : Type} (f : α → Option β) : List α → Option (List β)
  | [] => some []
  | a :: as => match f a, mapO f as with
    | some b, some bs => some (b :: bs)
    | _, _ => none
def visB (sc : Scope) (x : Str) : Bool := match sc.names.lookup x with
  | some .local | some .cell | some .free => true
  | _ => false
def globB (sc : Scope) (x : Str) : Bool := match sc.names.lookup x with
  | some .globalImplicit => true
  | _ => false
def slotOf (N : List Str) (x : Str) : Option Nat := N.idxOf? x
def nameD (D : DC) (x : Str) : Option ES :=
  if visB D.sc x then (slotOf D.N x).map eVar
  else if globB D.sc x then match D.G x with
    | some (.cst v) => some (eCst v)
    | _ => none
  else none
def constD : Const → Option ES
  | .none => some (eCst .non)
  | .bool b => some (eCst (.bl b))
  | .int i => some (eCst (.int i))
  | .str s => some (eCst (.str s))
  | _ => none
def isStar : Expr → Bool
  | .Starred .. => true
  | _ => false
def isComp : Expr → Bool
  | .ListComp .. | .SetComp .. | .DictComp .. => true
  | _ => false
def isSetD : Expr → Bool
  | .Set .. => true
  | _ => false
def isSlice : Expr → Bool
  | .Slice .. => true
  | _ => false
def isTupE : Expr → Bool
  | .Tuple .. => true
  | _ => false
/-- f() -/
def isCall0 : Expr → Bool
  | .Call (.Name _ _) [] [] _ => true
  | _ => false
/-- its truth is asked in its own way -/
def ownTest : Expr → Bool
  | .UnaryOp .Not _ _ | .BoolOp .. | .IfExp .. | .Compare .. => true
  | _ => false
/-- a built-in's name, not bound by the top -/
def bltB (D : DC) (f : Str) : Bool := globB D.sc f && (D.G f).isNone
/-- range(b): b -/
def rangeOf (D : DC) : Expr → Option Expr
  | .Call (.Name r _) [b] [] _ => if r = "range" ∧ bltB D r = true ∧ isStar b = false then some b else none
  | _ => none
/-- the built-ins that may be called here -/
def b1Ok (D : DC) (f : Str) : Bool := (D.calm || f == "len" || f == "tuple" || f == "int" || f == "str" || f == "repr") && (D.gd || f != "repr")
def orList : List ES → Option ES
  | [] => none
  | [a] => some a
  | a :: r => (orList r).map (eOr a)
def andList : List ES → Option ES
  | [] => none
  | [a] => some a
  | a :: r => (andList r).map (eAnd a)
def tOrList : List TSm → Option TSm
  | [] => none
  | [a] => some a
  | a :: r => (tOrList r).map (tOr a)
def tAndList : List TSm → Option TSm
  | [] => none
  | [a] => some a
  | a :: r => (tAndList r).map (tAnd a)
/-- a target's meaning -/
def denG : Nat → DC → Expr → Option TGt
  | n + 1, D, e => (match e with
    | .Name x _ => if D.sc.names.lookup x = some .local ∨ (D.sc.names.lookup x = some .cell ∧ D.own x = true) then (slotOf D.N x).map gNm else none
    | .Tuple es _ _ => if es.any isStar || !D.calm then none else (mapO (denG n D) es).map gTp
    | _ => none)
  | 0, _, _ => none
/-- the slots that a target stores to -/
def tgSlots : Nat → DC → Expr → List Nat
  | n + 1, D, e => (match e with
    | .Name x _ => (slotOf D.N x).toList
    | .Tuple es _ _ => es.flatMap (tgSlots n D)
    | _ => [])
  | 0, _, _ => []
/-- the slots of a comprehension's own names -/
def ownOf (N : List Str) (scope : Scope) : List (Str × Nat) := scope.names.filterMap fun (x, k) => match k with
  | .local | .cell => (slotOf N x).map fun i => (x, i)
  | _ => none
/-- the order of the parameters for keywords: the places in the written order -/
def kwOrder (ps : List Str) (ks : List Str) : Option (List Nat) := if ks.length = ps.length then mapO (fun p => ks.idxOf? p) ps else none
def reorder (ix : List Nat) (vs : List PV) : Option (List PV) := mapO (fun i => vs[i]?) ix
def kwNames (ks : List Keyword) : Option (List Str) := mapO (fun k => k.arg) ks

/-- what a walk goes over -/
inductive Wlk where
  | rng1 (a : Expr) | rng2 (a b : Expr) | enum (a : Expr) | zip (a b : Expr)
def walkOf (D : DC) (tg : Expr) : Expr → Option Wlk
  | .Call (.Name f _) [a] [] _ => if (bltB D f && !isStar a) = true then (if f = "range" then some (.rng1 a) else if f = "enumerate" ∧ isTupE tg = true then some (.enum a) else none) else none
  | .Call (.Name f _) [a, b] [] _ => if (bltB D f && !isStar a && !isStar b) = true then (if f = "range" then some (.rng2 a b) else if f = "zip" ∧ isTupE tg = true then some (.zip a b) else none) else none
  | _ => none
/-- without the defs that take lambdas -/
def noHof : Option GK → Option GK
  | some .hof => some .no
  | g => g
/-- within a comprehension's block, within a lambda -/
def DC.blk (D : DC) (scope : Scope) : DC := { D with G := fun x => noHof (D.G x), sc := L2.relS scope D.sc, own := fun x => scope.names.lookup x == some .cell, ex := none, tr := false, cb := none }
def DC.lam (D : DC) (scope : Scope) : DC := { D with G := fun x => noHof (D.G x), sc := scope, own := fun _ => false, gd := false, k := D.k - 2, ex := none, tr := false, cb := none }
/-- within an except suite -/
def noCall : Option GK → Option GK
  | some (.cst v) => some (.cst v)
  | some _ => some .no
  | none => none
def DC.sui (D : DC) (y : Str) : DC := { D with G := fun x => noCall (D.G x), calm := false, ex := some y, tr := false, cb := none }
abbrev RdE := DC → Expr → Option ES
/-- f(..), f a def of the top -/
def fnD (r : RdE) (D : DC) (f : Str) (ps : List Str) (as : List Expr) (ks : List Keyword) : Option ES :=
  if (D.calm && (D.gd || !D.gn f) && decide (D.lv f < D.k)) = true then (match ks with
    | [] => if as.isEmpty = false ∧ as.length = ps.length then (mapO (r D) as).map (eCall (D.call f)) else none
    | _ => if as.isEmpty = true then (match mapO (fun k => r D k.value) ks, kwNames ks with
      | some ys, some names => (match kwOrder ps names with
        | some ix => if D.kws f names = true then some (eCall (fun vs => (M.ofO (reorder ix vs)).bnd (D.call f)) ys) else none
        | none => none)
      | _, _ => none) else none) else none
/-- f(), f a parameter that holds a callback -/
def eCb (i : Nat) (m : M PV) : ES := fun σ => (eVar i σ).bnd fun v => match v with
  | .cb => m
  | _ => .stk
def cbD (D : DC) (f : Str) (as : List Expr) (ks : List Keyword) : Option ES := match D.cb with
  | some (x, m) => if f = x ∧ as.isEmpty = true ∧ ks.isEmpty = true then (slotOf D.N f).map fun i => eCb i m else none
  | none => none
/-- f(lambda: ..) -/
def hofD (r : RdE) (D : DC) (f : Str) (as : List Expr) (ks : List Keyword) : Option ES := match as, ks with
  | [.Lambda ⟨[], [], none, [], [], none, []⟩ body scope _], [] =>
    if (D.calm && LamX.lamSB D.sc scope && decide (D.lv f < D.k)) = true then (r (D.lam scope) body).map fun b σ => D.callT f (b σ) else none
  | _, _ => none
/-- isinstance(e, c), e.f: of the exception that a suite holds -/
def eIsx (sub : Str → Str → Option Bool) (i : Nat) (c : Str) : ES := fun σ => (eVar i σ).bnd fun v => match v with
  | .exc b _ => M.ofO ((sub b c).map .bl)
  | _ => .stk
def eFld (i : Nat) (f : Str) : ES := fun σ => (eVar i σ).bnd fun v => match v with
  | .exc _ fs => M.ofO (fs.lookup f)
  | _ => .stk
def isExName (D : DC) : Expr → Bool
  | .Name y _ => decide (D.ex = some y)
  | _ => false
def isxD (D : DC) : List Expr → Option ES
  | [.Name y _, .Name c _] => if D.ex = some y ∧ globB D.sc c = true ∧ visB D.sc y = true then (slotOf D.N y).map fun i => eIsx D.sub i c else none
  | _ => none
def fldD (D : DC) (y f : Str) : Option ES := if D.ex = some y ∧ D.fl f = true ∧ visB D.sc y = true then (slotOf D.N y).map fun i => eFld i f else none
/-- isinstance(a, c) -/
def isiE (r : RdE) (D : DC) (as : List Expr) : Option ES := match as with
  | [a, .Name c _] => if bltB D c = true then (match isiD c, r D a with
    | some t, some x => some (eCall1 (bIsi t) x)
    | _, _ => none) else none
  | _ => none
/-- f(..), f a built-in -/
noncomputable def bltD (r : RdE) (D : DC) (f : Str) (as : List Expr) (pos : Pos) : Option ES := match as with
  | [a] => (match rangeOf D a with
    | some b => if D.calm = true then (if f = "tuple" then (r D b).map (eCall1 bTupRg) else if f = "list" then (r D b).map (eCall1 (bLstRg (D.mu pos))) else none) else none
    | none => (match b1D (D.mu pos) f, r D a with
      | some g, some x => if b1Ok D f = true then some (eCall1 g x) else none
      | _, _ => none))
  | [a, b] => (match b2D f, r D a, r D b with
    | some g, some x, some y => if D.calm = true then some (eCall2 g x y) else none
    | _, _, _ => none)
  | _ => none
noncomputable def callD (r : RdE) (D : DC) (f : Str) (as : List Expr) (ks : List Keyword) (pos : Pos) : Option ES :=
  if as.any isStar = true then none
  else if globB D.sc f = true then (match D.G f with
    | some (.fn ps) => fnD r D f ps as ks
    | some .hof => hofD r D f as ks
    | some _ => none
    | none => if ks.isEmpty = true then (if f = "isinstance" then (if as.any (isExName D) = true then isxD D as else isiE r D as) else bltD r D f as pos) else none)
  else cbD D f as ks
/-- o.m(..) -/
def methD (r : RdE) (D : DC) (o : Expr) (m : Str) (apos : Pos) (as : List Expr) (pos : Pos) : Option ES :=
  if (as.any isStar || decide (20 < as.length) || !(apos.endLine == pos.line) || isCall0 o) = true then none else match methL m, r D o, mapO (r D) as with
    | some g, some x, some xs => some (eMeth g x xs)
    | _, _, _ => none
def dictD (r : RdE) (D : DC) (ks : List (Option Expr)) (vs : List Expr) (pos : Pos) : Option ES :=
  if ks.isEmpty = true then (if vs.isEmpty = true then some fun _ => mkK (D.mu pos) [] else none)
  else if 15 < ks.length then none else match mapO id ks with
    | some ks' => (match mapO (r D) ks', mapO (r D) vs with
      | some xs, some ys => if xs.length = ys.length then some fun σ => eDisp (D.mu pos) (xs.zip ys) σ [] else none
      | _, _ => none)
    | none => none
def partD (r : RdE) (D : DC) : Option Expr → Option (Sg → M (Option Int))
  | none => some eNoPart
  | some e => (r D e).map ePart
/-- the step -1 -/
def isBack : Option Expr → Bool
  | some (.UnaryOp .USub (.Constant (.int 1) _ _) _) => true
  | _ => false
def sliceD (r : RdE) (D : DC) (a : Expr) (l u s : Option Expr) (pos : Pos) : Option ES := match s with
  | none => (match r D a, partD r D l, partD r D u with
    | some x, some i, some j => some (eSlice (D.mu pos) x i j)
    | _, _, _ => none)
  | some st => if isBack (some st) = true ∧ l.isNone = true ∧ u.isNone = true then (r D a).map fun x σ => (x σ).bnd (sRev (D.mu pos)) else none
noncomputable def compD (r : RdE) (rT : DC → Expr → Option TSm) (rI : DC → Expr → Expr → Option IS) (D : DC) (el tg it : Expr) (ifs : List Expr) (scope : Scope) (pos : Pos) : Option ES :=
  if (D.calm && L2.blkC D.N D.sc scope (ownOf D.N scope) && !isSetD it && (tgSlots 9 (D.blk scope) tg).all (fun i => decide (i ∈ (ownOf D.N scope).map (·.2)))) = true then
    match rI D tg it, denG 9 (D.blk scope) tg, (match ifs with
      | [] => some tYes
      | [c] => rT (D.blk scope) c
      | _ => none), r (D.blk scope) el with
    | some i, some g, some t, some x => some (eComp (D.mu pos) ((ownOf D.N scope).map (·.2)) i g t x)
    | _, _, _, _ => none
  else none
def cmp1D (r : RdE) (D : DC) (a : Expr) (op : CmpOp) (b : Expr) : Option ES := if isSetD b = true then none else match r D a, r D b with
  | some x, some y => some (eBin (cmpD op) x y)
  | _, _ => none
def cmp2D (r : RdE) (D : DC) (a : Expr) (op op' : CmpOp) (b c : Expr) : Option ES := if (isSetD b || isSetD c) = true then none else match r D a, r D b, r D c with
  | some x, some y, some z => some (eChain (cmpD op) (cmpD op') x y z)
  | _, _, _ => none
def binE (r : RdE) (D : DC) (a : Expr) (op : Operator) (b : Expr) (pos : Pos) : Option ES := match binD (D.mu pos) op, r D a, r D b with
  | some f, some x, some y => some (eBin f x y)
  | _, _, _ => none
def ifE (r : RdE) (rT : DC → Expr → Option TSm) (D : DC) (t a b : Expr) : Option ES := match rT D t, r D a, r D b with
  | some t, some x, some y => some (eIf t x y)
  | _, _, _ => none
def ixE (r : RdE) (D : DC) (a i : Expr) : Option ES := if isSlice i = true then none else match r D a, r D i with
  | some x, some y => some (eBin sIx x y)
  | _, _ => none
mutual
noncomputable def denE : Nat → DC → Expr → Option ES
  | 0, _, _ => none
  | n + 1, D, e => match e with
    | .Constant c _ _ => constD c
    | .Name x _ => nameD D x
    | .BinOp a op b pos => binE (denE n) D a op b pos
    | .UnaryOp .USub a _ => (denE n D a).map (eUn uNeg)
    | .UnaryOp .Not a _ => (denE n D a).map eNot
    | .BoolOp .Or vs _ => (mapO (denE n D) vs).bind orList
    | .BoolOp .And vs _ => (mapO (denE n D) vs).bind andList
    | .IfExp t a b _ => ifE (denE n) (denT n) D t a b
    | .Compare a [op] [b] _ => cmp1D (denE n) D a op b
    | .Compare a [op, op'] [b, c] _ => cmp2D (denE n) D a op op' b c
    | .Tuple es _ _ => if es.any isStar = true then none else (mapO (denE n D) es).map eTup
    | .List es pos => if es.any isStar = true then none else (mapO (denE n D) es).map (eLst (D.mu pos))
    | .Dict ks vs pos => dictD (denE n) D ks vs pos
    | .Subscript a i pos => (match i with
      | .Slice l u s _ => sliceD (denE n) D a l u s pos
      | i => ixE (denE n) D a i)
    | .ListComp el [⟨tg, it, ifs, 0⟩] scope pos => compD (denE n) (denT n) (denI n) D el tg it ifs scope pos
    | .Call (.Name f _) as ks pos => callD (denE n) D f as ks pos
    | .Call (.Attribute o m apos) as [] pos => methD (denE n) D o m apos as pos
    | .Attribute (.Name y _) f _ => fldD D y f
    | _ => none
noncomputable def denT : Nat → DC → Expr → Option TSm
  | 0, _, _ => none
  | n + 1, D, e => match e with
    | .UnaryOp .Not a _ => (denT n D a).map tNot
    | .BoolOp .Or vs _ => (mapO (denT n D) vs).bind tOrList
    | .BoolOp .And vs _ => (mapO (denT n D) vs).bind tAndList
    | .IfExp .. => none
    | .Compare .. => (denE n D e).map tBl
    | e => if ownTest e = true then none else (denE n D e).map tVal
noncomputable def denI : Nat → DC → Expr → Expr → Option IS
  | 0, _, _, _ => none
  | n + 1, D, tg, e => match walkOf D tg e with
    | some (.rng1 a) => (denE n D a).map iRng1
    | some (.rng2 a b) => (match denE n D a, denE n D b with
      | some x, some y => some (iRng2 x y)
      | _, _ => none)
    | some (.enum a) => (denE n D a).map iEnum
    | some (.zip a b) => (match denE n D a, denE n D b with
      | some x, some y => some (iZip x y)
      | _, _ => none)
    | none => (denE n D e).map iSeq
end

/-! ### statements -/
/-- a plain name of the first line -/
def lineName (sc : Scope) (line : Nat) : Expr → Option Str
  | .Name id pos => if sc.names.lookup id == some .local && pos.line == line then some id else none
  | _ => none
def line0 (ts : List Expr) : Nat := (ts.head?.map (·.pos.line)).getD 0
def swapNames (sc : Scope) (ts : List Expr) : List Str := ts.filterMap (lineName sc (line0 ts))
/-- whether the stores of a, b = x, y are exchanged: none where the text is not of the kinds that are told -/
def swapK (sc : Scope) (ts vs : List Expr) : Option (Option (List Str)) :=
  if (!(ts.length == 2 || ts.length == 3) || vs.length != ts.length) = true then some none
  else if vs.any isStar = true then some none
  else if ((swapNames sc ts).length != ts.length || (swapNames sc ts).eraseDups.length != (swapNames sc ts).length) = true then some none
  else if vs.all (foldedForSure 8) = true then some none
  else if vs.all (constantsAlone 8) = true then none
  else some (some (swapNames sc ts))
def assignD (rE : RdE) (D : DC) (t e : Expr) : Option SS := match t with
  | .Name x p => (match denG 9 D (.Name x p), rE D e with
    | some g, some f => some (sAsg g f)
    | _, _ => none)
  | .Tuple ts _ _ => if (ts.any isStar || !D.calm) = true then none else (match e with
    | .Tuple vs _ _ => if vs.any isStar = true then none else (match swapK D.sc ts vs, mapO (denG 9 D) ts, mapO (rE D) vs with
      | some _, some gs, some es => if gs.length = es.length ∧ gs.length ≤ 1000 then some (sPar (gAll gs) es) else none
      | _, _, _ => none)
    | e => if isComp e = true then none else (match denG 9 D t, rE D e with
      | some g, some f => some (sAsg g f)
      | _, _ => none))
  | .Subscript o i _ => if (isSlice i || isComp e) = true then none else (match rE D o, rE D i, rE D e with
    | some x, some y, some z => some (sPut x y z)
    | _, _, _ => none)
  | _ => none
def raiseD (rE : RdE) (D : DC) (c : Str) (as : List Expr) : Option SS := if (globB D.sc c && D.calm && !(as.any isStar) && !as.isEmpty && decide (2 ≤ D.k)) = true then (match D.G c with
  | some (.exc ps) => (mapO (rE D) as).map (sRaise c ps)
  | _ => none) else none
def ifS (rT : DC → Expr → Option TSm) (rS : DC → List Stmt → Option SS) (D : DC) (t : Expr) (a b : List Stmt) : Option SS := match rT D t, rS D a, rS D b with
  | some t, some x, some y => some (sIf t x y)
  | _, _, _ => none
noncomputable def forS (rI : DC → Expr → Expr → Option IS) (rS : DC → List Stmt → Option SS) (D : DC) (tg it : Expr) (body : List Stmt) : Option SS := if (D.calm && !isSetD it) = true then (match rI D tg it, denG 9 D tg, rS D body with
  | some i, some g, some b => some (sFor i g b)
  | _, _, _ => none) else none
def whileS (rT : DC → Expr → Option TSm) (rS : DC → List Stmt → Option SS) (D : DC) (t : Expr) (body : List Stmt) : Option SS := match rT D t, rS D body with
  | some t, some b => some (sWhile t b)
  | _, _ => none
mutual
/-- no exception within, no callback within -/
def okv (be bc : Bool) : PV → Bool
  | .tup xs => okvs be bc xs
  | .lst xs => okvs be bc xs
  | .dK kvs => okvk be bc kvs
  | .exc _ _ => !be
  | .cb => !bc
  | .dT _ => false
  | .non | .bl _ | .int _ | .str _ | .set _ | .scr _ | .rng _ _ | .fn _ | .ref _ => true
def okvs (be bc : Bool) : List PV → Bool
  | [] => true
  | v :: vs => okv be bc v && okvs be bc vs
def okvk (be bc : Bool) : List (Key × PV) → Bool
  | [] => true
  | (_, v) :: vs => okv be bc v && okvk be bc vs
end
def okC (be bc : Bool) : Cell → Bool
  | .lst xs => okvs be bc xs
  | .dK kvs => okvk be bc kvs
  | .dT _ | .ins _ _ => false
/-- a suite's end -/
def endX (n : Nat) : SR → SR
  | .ret v h => if okv true false v = true ∧ h.all (okC true false) = true then .ret v h else .stuck
  | .nx sg h => if sg.length = n ∧ h.all (okC true false) = true then .nx (List.replicate n none) h else .stuck
  | _ => .stuck
/-- try: .. except C as y: .. -/
def sTry (n i : Nat) (sub : Str → Option Bool) (kl : Str → Bool) (b g : SS) : SS := fun σ h => match b σ h with
  | .exc (.exc c fs) h' => if kl c = true then (match sub c with
    | some true => endX n (g ((List.replicate n none).set i (some (.exc c fs))) h')
    | some false => .exc (.exc c fs) h'
    | none => .stuck) else .stuck
  | .exc _ _ => .stuck
  | r => r
def tryD (rS : DC → List Stmt → Option SS) (D : DC) (body : List Stmt) (c y : Str) (suite : List Stmt) : Option SS :=
  if (globB D.sc c && decide (D.sc.names.lookup y = some .local) && !suite.isEmpty && D.calm && D.tr && D.ct c && D.ex.isNone) = true then (match slotOf D.N y, rS D body, rS (D.sui y) suite with
    | some i, some b, some g => some (sTry D.N.length i (fun x => D.sub x c) D.kl b g)
    | _, _, _ => none) else none
mutual
noncomputable def denS : Nat → DC → Stmt → Option SS
  | 0, _, _ => none
  | n + 1, D, st => match st with
    | .Pass _ => some sNil
    | .Break _ => some sBrk
    | .Continue _ => some sCt
    | .Return none _ => some sRetN
    | .Return (some e) _ => (denE n D e).map sRet
    | .Expr e _ => if isComp e = true then none else (denE n D e).map sExpr
    | .Assign [t] e _ => assignD (denE n) D t e
    | .If t a b _ => ifS (denT n) (denSs n) D t a b
    | .For tg it body [] _ => forS (denI n) (denSs n) D tg it body
    | .While t body [] _ => whileS (denT n) (denSs n) D t body
    | .Raise (some (.Call (.Name c _) as [] _)) none _ => raiseD (denE n) D c as
    | .Try body [.ExceptHandler (some (.Name c _)) (some y) suite _] [] [] _ => tryD (denSs n) D body c y suite
    | _ => none
noncomputable def denSs : Nat → DC → List Stmt → Option SS
  | 0, _, _ => none
  | n + 1, D, l => match l with
    | [] => some sNil
    | s :: r => (match denS n D s, denSs n D r with
      | some a, some b => some (sSeq a b)
      | _, _ => none)
end
end HS
end
-- text EvRep
section
set_option Elab.async false
set_option linter.all false
set_option maxRecDepth 100000

/-! How values and cells lie in the abstract heap. -/
namespace HS
open PySem
abbrev V := L2.V
abbrev Hp := L2.Hp
abbrev HO := L2.HO

/-- a tuple of the written part -/
def KTup (K : PySem.W.Frag) (a : Addr) (xs : List V) : Prop :=
  ∃ (o : Obj) (its : Array Value) (n : Nat), K.lookup a = some o ∧ o.cls = .type "tuple" ∧ o.data = .seq its n ∧ its.size ≤ sizeLine ∧ L2.Vals xs its.toList
/-- the tables of code objects; within an except suite: the exception, its dict, its class, its fields; a callback -/
structure Tx where
  tabs : List (Addr × Str)
  ex : Option (Addr × Addr × Str × List (Str × PV)) := none
  /-- the callback: its function, its code object's address and name, the slots of the text that made it -/
  cb : Option (Addr × Addr × Str × Sg × L2.St) := none
/-- what every rule leans on: the written part, the module's names, the tables of code objects -/
structure Bs where
  K : PySem.W.Frag
  mg : Str → Option Value
  T : Tx
  w : World
  hid : List Addr
abbrev Bs.wh (B : Bs) (hid : List Addr) : Bs := ⟨B.K, B.mg, B.T, B.w, hid⟩

/-- neither a cell nor a list in the making -/
def Out (B : Bs) (ρ : List Addr) (a : Addr) : Prop := a ∉ ρ ∧ a ∉ B.hid
def At (B : Bs) (ρ : List Addr) (H : Hp) (a : Addr) (u : HO) : Prop := L2.Rd H a u ∧ Out B ρ a
def TupAt (B : Bs) (ρ : List Addr) (H : Hp) (a : Addr) (xs : List V) : Prop := At B ρ H a (.tup xs) ∨ KTup B.K a xs
theorem TupAt.sq {B : Bs} {ρ : List Addr} {H : Hp} {a : Addr} {xs : List V} (h : TupAt B ρ H a xs) : L2.SqT B.K H a xs := h.elim (fun h => .inl h.1) .inr

/-- the script's list: known, or of the written part -/
def KLst (K : PySem.W.Frag) (a : Addr) (xs : List V) : Prop :=
  ∃ (o : Obj) (its : Array Value) (n : Nat), K.lookup a = some o ∧ o.cls = .type "list" ∧ o.dict = none ∧ o.data = .seq its n ∧ its.size ≤ sizeLine ∧ L2.Vals xs its.toList
def ScrAt (B : Bs) (ρ : List Addr) (H : Hp) (a : Addr) (ns : List Int) : Prop := At B ρ H a (.lst (ns.map L2.V.int)) ∨ KLst B.K a (ns.map L2.V.int)
theorem ScrAt.sq {B : Bs} {ρ : List Addr} {H : Hp} {a : Addr} {ns : List Int} (h : ScrAt B ρ H a ns) : L2.SqL B.K H a (ns.map L2.V.int) := h.elim (fun h => .inl h.1) .inr
mutual
inductive RV (B : Bs) (ρ : List Addr) (H : Hp) : V → PV → Prop
  | non : RV B ρ H .non .non
  | bl (b : Bool) : RV B ρ H (.bl b) (.bl b)
  | int (i : Int) : RV B ρ H (.int i) (.int i)
  | str (s : Str) : RV B ρ H (.str s) (.str s)
  | tup {a : Addr} {xs : List V} {vs : List PV} : TupAt B ρ H a xs → RVs B ρ H xs vs → RV B ρ H (.ref a) (.tup vs)
  | lst {a : Addr} {xs : List V} {vs : List PV} : H a = some (.lst xs) → Out B ρ a → RVs B ρ H xs vs → RV B ρ H (.ref a) (.lst vs)
  | scr {a : Addr} {ns : List Int} : ScrAt B ρ H a ns → RV B ρ H (.ref a) (.scr ns)
  | dK {a : Addr} {kvs : List (Key × V)} {pvs : List (Key × PV)} : At B ρ H a (.dK kvs) → RKs B ρ H kvs pvs → RV B ρ H (.ref a) (.dK pvs)
  | set {a : Addr} {S : Int → Bool} {n : Nat} {xs : List Int} : H a = some (L2.SetO B.w a S n) → Out B ρ a → (∀ i, S i = decide (i ∈ xs)) → n ≤ xs.length → RV B ρ H (.ref a) (.set xs)
  | rng {a : Addr} {lo hi : Int} : At B ρ H a (.rng lo hi) → RV B ρ H (.ref a) (.rng lo hi)
  | ref {k : Nat} {a : Addr} : ρ[k]? = some a → RV B ρ H (.ref a) (.ref k)
  | fn {x : Str} {f : Addr} : B.mg x = some (.ref f) → RV B ρ H (.ref f) (.fn x)
  | exc {a dd : Addr} {c : Str} {fs : List (Str × PV)} : B.T.ex = some (a, dd, c, fs) → RV B ρ H (.ref a) (.exc c fs)
  | cb {f c : Addr} {q : Str} {sg : Sg} {σ : L2.St} : B.T.cb = some (f, c, q, sg, σ) → RV B ρ H (.ref f) .cb
inductive RVs (B : Bs) (ρ : List Addr) (H : Hp) : List V → List PV → Prop
  | nil : RVs B ρ H [] []
  | cons {x : V} {xs : List V} {v : PV} {vs : List PV} : RV B ρ H x v → RVs B ρ H xs vs → RVs B ρ H (x :: xs) (v :: vs)
inductive RKs (B : Bs) (ρ : List Addr) (H : Hp) : List (Key × V) → List (Key × PV) → Prop
  | nil : RKs B ρ H [] []
  | cons {k : Key} {x : V} {xs : List (Key × V)} {v : PV} {vs : List (Key × PV)} : RV B ρ H x v → RKs B ρ H xs vs → RKs B ρ H ((k, x) :: xs) ((k, v) :: vs)
end
def RC (B : Bs) (ρ : List Addr) (H : Hp) (a : Addr) : Cell → Prop
  | .lst vs => ∃ xs, H a = some (.lst xs) ∧ RVs B ρ H xs vs
  | .dK pvs => ∃ kvs, H a = some (.dK kvs) ∧ RKs B ρ H kvs pvs
  | .dT _ => False
  | .ins _ _ => False
/-- the slots -/
structure RS (B : Bs) (ρ : List Addr) (H : Hp) (sg : Sg) (σ : L2.St) : Prop where
  len : sg.length = σ.length
  get : ∀ (i : Nat) (v : PV), sg[i]? = some (some v) → ∃ x, σ[i]? = some (some x) ∧ RV B ρ H x v
/-- the exception's dict stands, the callback's code object stands, and what it closes over -/
structure XcOk (B : Bs) (ρ : List Addr) (H : Hp) : Prop where
  ex : ∀ a dd c fs, B.T.ex = some (a, dd, c, fs) → Out B ρ dd ∧ ∃ xs, H dd = some (.xd xs) ∧ ∀ f v, fs.lookup f = some v → ∃ x, xs.lookup f = some x ∧ RV B ρ H x v
  cb : ∀ f c q sg σ, B.T.cb = some (f, c, q, sg, σ) → Out B ρ c ∧ H c = some (LamX.CodeO c q) ∧ RS B ρ H sg σ
/-- an object that is no table and no code -/
def NoTab (o : HO) : Prop := (∀ ps, o ≠ .tbl ps) ∧ ∀ c q, o ≠ LamX.CodeO c q
/-- a hidden object -/
def HidAt (ρ : List Addr) (H : Hp) (a : Addr) : Prop := a ∉ ρ ∧ ∃ u, H a = some u ∧ NoTab u
structure RH (B : Bs) (ρ : List Addr) (h : Hv) (H : Hp) : Prop where
  len : ρ.length = h.length
  nd : ρ.Nodup
  cell : ∀ (k : Nat) (c : Cell) (a : Addr), h[k]? = some c → ρ[k]? = some a → RC B ρ H a c
  tabs : LamX.Tabs B.T.tabs H
  hid : ∀ a ∈ B.hid, HidAt ρ H a
  xc : XcOk B ρ H
structure Step (B : Bs) (ρ : List Addr) (H : Hp) (ρ' : List Addr) (H' : Hp) : Prop where
  pre : ρ <+: ρ'
  keep : ∀ a u, a ∉ ρ → (∀ ps, u ≠ .tbl ps) → H a = some u → H' a = some u
  new : ∀ a ∈ ρ', a ∈ ρ ∨ H a = none
  live : ∀ a, H a ≠ none → H' a ≠ none
  tabs : LamX.Tabs B.T.tabs H → LamX.Tabs B.T.tabs H'
section
variable {B : Bs} {ρ ρ' ρ2 : List Addr} {H H' H2 : Hp} {h : Hv}
theorem Rd.some {a : Addr} {u : HO} (h : L2.Rd H a u) : H a ≠ none := by
  rcases h with h | ⟨o, h⟩ <;> rw [h] <;> exact fun z => nomatch z
theorem HidAt.live {a : Addr} (h : HidAt ρ H a) : H a ≠ none := by
  obtain ⟨_, u, e, _⟩ := h
  rw [e]
  exact fun z => nomatch z
theorem Step.refl : Step B ρ H ρ H := ⟨List.prefix_refl _, fun _ _ _ _ h => h, fun _ h => .inl h, fun _ h => h, fun h => h⟩
theorem Step.out (s : Step B ρ H ρ' H') {a : Addr} {u : HO} (h : L2.Rd H a u) (n : a ∉ ρ) : a ∉ ρ' := fun z => by
  rcases s.new a z with q | q
  · exact n q
  · exact Rd.some h q
theorem Step.rd (s : Step B ρ H ρ' H') {a : Addr} {u : HO} (h : L2.Rd H a u) (n : a ∉ ρ) (hu : ∀ ps, u ≠ .tbl ps) : L2.Rd H' a u := by
  rcases h with h | ⟨o, h⟩
  · exact .inl (s.keep a u n hu h)
  · exact .inr ⟨o, s.keep a _ n (fun _ z => by cases z) h⟩
theorem Step.at (s : Step B ρ H ρ' H') {a : Addr} {u : HO} (h : At B ρ H a u) (hu : ∀ ps, u ≠ .tbl ps) : At B ρ' H' a u := ⟨s.rd h.1 h.2.1 hu, s.out h.1 h.2.1, h.2.2⟩
theorem Step.trans (s : Step B ρ H ρ' H') (t : Step B ρ' H' ρ2 H2) : Step B ρ H ρ2 H2 :=
  ⟨s.pre.trans t.pre, fun a u n hu h => t.keep a u (s.out (.inl h) n) hu (s.keep a u n hu h), fun a z => by
    rcases t.new a z with q | q
    · exact s.new a q
    · by_cases e : H a = none
      · exact .inr e
      · exact absurd q (s.live a e), fun a e => t.live a (s.live a e), fun q => t.tabs (s.tabs q)⟩
theorem Step.ix (s : Step B ρ H ρ' H') {k : Nat} {a : Addr} (h : ρ[k]? = some a) : ρ'[k]? = some a := by
  obtain ⟨t, e⟩ := s.pre
  rw [← e, List.getElem?_append_left (List.getElem?_eq_some_iff.mp h).1]
  exact h
theorem ne_tbl_tup {xs : List V} : ∀ ps, (L2.HO.tup xs : HO) ≠ .tbl ps := fun _ z => by cases z
theorem ne_tbl_lst {xs : List V} : ∀ ps, (L2.HO.lst xs : HO) ≠ .tbl ps := fun _ z => by cases z
theorem ne_tbl_dK {xs : List (Key × V)} : ∀ ps, (L2.HO.dK xs : HO) ≠ .tbl ps := fun _ z => by cases z
theorem ne_tbl_set {w : World} {a : Addr} {S : Int → Bool} {n : Nat} : ∀ ps, (L2.SetO w a S n : HO) ≠ .tbl ps := fun _ z => by unfold L2.SetO at z; cases z
theorem ne_tbl_rng {a b : Int} : ∀ ps, (L2.HO.rng a b : HO) ≠ .tbl ps := fun _ z => by cases z
theorem HidAt.step {a : Addr} (h : HidAt ρ H a) (s : Step B ρ H ρ' H') : HidAt ρ' H' a := by
  obtain ⟨h1, u, h2, h3⟩ := h
  exact ⟨s.out (.inl h2) h1, u, s.keep a u h1 h3.1 h2, h3⟩
mutual
theorem RV.step (s : Step B ρ H ρ' H') : ∀ {x : V} {v : PV}, RV B ρ H x v → RV B ρ' H' x v
  | _, _, .non => .non
  | _, _, .bl b => .bl b
  | _, _, .int i => .int i
  | _, _, .str x => .str x
  | _, _, .tup h r => .tup (h.elim (fun h => .inl (s.at h ne_tbl_tup)) .inr) (RVs.step s r)
  | _, _, .lst h n r => .lst (s.keep _ _ n.1 ne_tbl_lst h) ⟨s.out (.inl h) n.1, n.2⟩ (RVs.step s r)
  | _, _, .scr h => .scr (h.elim (fun h => .inl (s.at h ne_tbl_lst)) .inr)
  | _, _, .dK h r => .dK (s.at h ne_tbl_dK) (RKs.step s r)
  | _, _, .set h n a b => .set (s.keep _ _ n.1 ne_tbl_set h) ⟨s.out (.inl h) n.1, n.2⟩ a b
  | _, _, .rng h => .rng (s.at h ne_tbl_rng)
  | _, _, .ref h => .ref (s.ix h)
  | _, _, .fn h => .fn h
  | _, _, .exc h => .exc h
  | _, _, .cb h => .cb h
theorem RVs.step (s : Step B ρ H ρ' H') : ∀ {xs : List V} {vs : List PV}, RVs B ρ H xs vs → RVs B ρ' H' xs vs
  | _, _, .nil => .nil
  | _, _, .cons h r => .cons (RV.step s h) (RVs.step s r)
theorem RKs.step (s : Step B ρ H ρ' H') : ∀ {xs : List (Key × V)} {vs : List (Key × PV)}, RKs B ρ H xs vs → RKs B ρ' H' xs vs
  | _, _, .nil => .nil
  | _, _, .cons h r => .cons (RV.step s h) (RKs.step s r)
end
theorem RS.step {sg : Sg} {σ : L2.St} (r : RS B ρ H sg σ) (s : Step B ρ H ρ' H') : RS B ρ' H' sg σ := ⟨r.len, fun i v e => let ⟨x, h1, h2⟩ := r.get i v e; ⟨x, h1, h2.step s⟩⟩
theorem ne_tbl_code {c : Addr} {q : Str} : ∀ ps, (LamX.CodeO c q : HO) ≠ .tbl ps := fun _ z => by unfold LamX.CodeO at z; cases z
theorem XcOk.step (x : XcOk B ρ H) (s : Step B ρ H ρ' H') : XcOk B ρ' H' := by
  refine ⟨fun a dd c fs e => ?_, fun f c q sg σ e => ?_⟩
  · obtain ⟨h1, xs, h2, h3⟩ := x.ex a dd c fs e
    refine ⟨⟨s.out (.inl h2) h1.1, h1.2⟩, xs, s.keep dd _ h1.1 (fun _ z => by cases z) h2, fun f v ef => ?_⟩
    obtain ⟨y, g1, g2⟩ := h3 f v ef
    exact ⟨y, g1, g2.step s⟩
  · obtain ⟨h1, h2, h3⟩ := x.cb f c q sg σ e
    exact ⟨⟨s.out (.inl h2) h1.1, h1.2⟩, s.keep c _ h1.1 ne_tbl_code h2, h3.step s⟩
/-- a new object -/
theorem Step.laid {p : Addr} {o : HO} (hp : H p = none) : Step B ρ H ρ (L2.upd H p o) := by
  have k : ∀ a u, H a = some u → L2.upd H p o a = some u := fun a u e => by rw [L2.upd_ne (L2.ne_of_none e hp)]; exact e
  refine ⟨List.prefix_refl _, fun a u _ _ h => k _ _ h, fun _ h => .inl h, fun a e => ?_, fun t => t.ext k⟩
  · cases q : H a with
    | none => exact absurd q e
    | some u => rw [k _ _ q]; exact fun z => nomatch z
/-- .. that is a cell from now on -/
theorem Step.cell {p : Addr} {o : HO} (hp : H p = none) : Step B ρ H (ρ ++ [p]) (L2.upd H p o) := by
  have s : Step B ρ H ρ (L2.upd H p o) := Step.laid hp
  refine ⟨List.prefix_append _ _, s.keep, fun a z => ?_, s.live, s.tabs⟩
  rcases List.mem_append.mp z with z | z
  · exact .inl z
  · exact .inr (by rw [List.mem_singleton.mp z]; exact hp)
theorem Tabs.upd {T : List (Addr × Str)} {a : Addr} {o : HO} {H : Hp} (hn : ∀ p ∈ T, p.1 ≠ a) (hc : ∀ c q, H c = some (LamX.CodeO c q) → c ≠ a) (t : LamX.Tabs T H) : LamX.Tabs T (L2.upd H a o) := fun p hp => by
  obtain ⟨ps, h1, h2, h3⟩ := t p hp
  refine ⟨ps, by rw [L2.upd_ne (hn p hp)]; exact h1, h2, fun pos cv e => ?_⟩
  obtain ⟨c, e1, e2⟩ := h3 pos cv e
  exact ⟨c, e1, by rw [L2.upd_ne (hc c _ e2)]; exact e2⟩
/-- a cell is written -/
theorem Step.write {k : Nat} {a : Addr} {o o' : HO} (hk : ρ[k]? = some a) (ha : H a = some o') (h1 : ∀ ps, o' ≠ .tbl ps) (h2 : ∀ c q, o' ≠ LamX.CodeO c q) : Step B ρ H ρ (L2.upd H a o) := by
  have hm : a ∈ ρ := List.mem_of_getElem? hk
  refine ⟨List.prefix_refl _, fun b u n _ h => ?_, fun _ h => .inl h, fun b e => ?_, fun t => ?_⟩
  · have ne : b ≠ a := fun z => n (z ▸ hm)
    rw [L2.upd_ne ne]
    exact h
  · by_cases z : b = a
    · rw [z, L2.upd_same]; exact fun z => nomatch z
    · rw [L2.upd_ne z]; exact e
  · refine Tabs.upd (fun p hp z => ?_) (fun c q e z => ?_) t
    · obtain ⟨ps, e, _⟩ := t p hp
      rw [z, ha] at e
      exact h1 _ (Option.some.inj e)
    · rw [z, ha] at e
      exact h2 _ _ (Option.some.inj e)
theorem RC.step (s : Step B ρ H ρ' H') {a : Addr} {c : Cell} (h : RC B ρ H a c) (e : H' a = H a) : RC B ρ' H' a c := by
  cases c with
  | lst vs =>
    obtain ⟨xs, h1, h2⟩ := h
    exact ⟨xs, e.trans h1, h2.step s⟩
  | dK vs =>
    obtain ⟨xs, h1, h2⟩ := h
    exact ⟨xs, e.trans h1, h2.step s⟩
  | dT _ => exact h
  | ins _ _ => exact h
theorem RH.tracked (r : RH B ρ h H) {k : Nat} {a : Addr} (hk : ρ[k]? = some a) : ∃ c, h[k]? = some c ∧ RC B ρ H a c := by
  have hl : k < h.length := by
    rw [← r.len]
    exact (List.getElem?_eq_some_iff.mp hk).1
  exact ⟨h[k], List.getElem?_eq_getElem hl, r.cell k _ a (List.getElem?_eq_getElem hl) hk⟩
theorem RC.live {a : Addr} {c : Cell} (h : RC B ρ H a c) : ∃ o, H a = some o ∧ (∀ ps, o ≠ .tbl ps) ∧ (∀ c q, o ≠ LamX.CodeO c q) := by
  cases c with
  | lst vs =>
    obtain ⟨xs, h1, _⟩ := h
    exact ⟨_, h1, ne_tbl_lst, fun c q z => by unfold LamX.CodeO at z; cases z⟩
  | dK vs =>
    obtain ⟨xs, h1, _⟩ := h
    exact ⟨_, h1, ne_tbl_dK, fun c q z => by unfold LamX.CodeO at z; cases z⟩
  | dT _ => exact h.elim
  | ins _ _ => exact h.elim
theorem RH.fresh (r : RH B ρ h H) {p : Addr} (hp : H p = none) : Out B ρ p := by
  refine ⟨fun z => ?_, fun z => (r.hid p z).live hp⟩
  obtain ⟨k, hk⟩ := List.mem_iff_getElem?.mp z
  obtain ⟨c, _, rc⟩ := r.tracked hk
  obtain ⟨o, e, _⟩ := rc.live
  rw [hp] at e
  cases e
/-- the cells behind a step that leaves them as they are -/
theorem RH.kept (r : RH B ρ h H) (s : Step B ρ H ρ H') (e : ∀ a ∈ ρ, H' a = H a) : RH B ρ h H' :=
  ⟨r.len, r.nd, fun k c a h1 h2 => (r.cell k c a h1 h2).step s (e a (List.mem_of_getElem? h2)), s.tabs r.tabs, fun a ha => (r.hid a ha).step s, r.xc.step s⟩
theorem RH.laid (r : RH B ρ h H) {p : Addr} {o : HO} (hp : H p = none) : RH B ρ h (L2.upd H p o) :=
  r.kept (Step.laid hp) fun a ha => L2.upd_ne fun z => (r.fresh hp).1 (z ▸ ha)
theorem RH.alloc (r : RH B ρ h H) {p : Addr} {o : HO} {c : Cell} (hp : H p = none) (rc : RC B (ρ ++ [p]) (L2.upd H p o) p c) : RH B (ρ ++ [p]) (h ++ [c]) (L2.upd H p o) := by
  have hf := (r.fresh hp).1
  refine ⟨by rw [List.length_append, List.length_append, r.len]; rfl, ?_, fun k c' a h1 h2 => ?_, (Step.cell (B := B) (ρ := ρ) hp).tabs r.tabs, fun a ha => (r.hid a ha).step (Step.cell (B := B) (ρ := ρ) hp), r.xc.step (Step.cell hp)⟩
  · rw [List.nodup_append]
    exact ⟨r.nd, by simp, fun a ha b hb z => hf (by rw [List.mem_singleton.mp hb] at z; exact z ▸ ha)⟩
  · by_cases hk : k < ρ.length
    · rw [List.getElem?_append_left hk] at h2
      rw [List.getElem?_append_left (by rw [← r.len]; exact hk)] at h1
      exact (r.cell k c' a h1 h2).step (Step.cell hp) (L2.upd_ne fun z => hf (z ▸ List.mem_of_getElem? h2))
    · rw [List.getElem?_append_right (by omega)] at h2
      rw [List.getElem?_append_right (by rw [← r.len]; omega), ← r.len] at h1
      cases q : k - ρ.length with
      | zero =>
        rw [q] at h1 h2
        cases h1
        cases h2
        exact rc
      | succ m =>
        rw [q] at h1
        cases h1
theorem RH.write (r : RH B ρ h H) {k : Nat} {a : Addr} {o : HO} {c : Cell} (hk : ρ[k]? = some a) (rc : RC B ρ (L2.upd H a o) a c) : RH B ρ (setC h k c) (L2.upd H a o) ∧ Step B ρ H ρ (L2.upd H a o) := by
  obtain ⟨c0, e0, r0⟩ := r.tracked hk
  obtain ⟨o0, h0, h1, h2⟩ := r0.live
  have s : Step B ρ H ρ (L2.upd H a o) := Step.write hk h0 h1 h2
  refine ⟨⟨by unfold setC; rw [List.length_set]; exact r.len, r.nd, fun j c' b e1 e2 => ?_, s.tabs r.tabs, fun a ha => (r.hid a ha).step s, r.xc.step s⟩, s⟩
  unfold setC at e1
  by_cases hj : j = k
  · subst hj
    rw [hk] at e2
    cases e2
    rw [List.getElem?_set_self (List.getElem?_eq_some_iff.mp e0).1] at e1
    cases e1
    exact rc
  · rw [List.getElem?_set_ne (Ne.symm hj)] at e1
    refine (r.cell j c' b e1 e2).step s (L2.upd_ne fun z => hj ?_)
    subst z
    exact (List.getElem?_inj (List.getElem?_eq_some_iff.mp e2).1 r.nd).mp (e2.trans hk.symm)
end

/-! ### lists of values -/
section
variable {B : Bs} {ρ : List Addr} {H : Hp}
theorem RVs.length : ∀ {xs : List V} {vs : List PV}, RVs B ρ H xs vs → xs.length = vs.length
  | _, _, .nil => rfl
  | _, _, .cons _ r => congrArg (· + 1) (RVs.length r)
theorem RKs.length : ∀ {xs : List (Key × V)} {vs : List (Key × PV)}, RKs B ρ H xs vs → xs.length = vs.length
  | _, _, .nil => rfl
  | _, _, .cons _ r => congrArg (· + 1) (RKs.length r)
theorem RVs.get : ∀ {xs : List V} {vs : List PV} {i : Nat} {v : PV}, RVs B ρ H xs vs → vs[i]? = some v → ∃ x, xs[i]? = some x ∧ RV B ρ H x v
  | _, _, 0, _, .cons h _, e => by simp at e; subst e; exact ⟨_, rfl, h⟩
  | _, _, i + 1, _, .cons _ r, e => by
    obtain ⟨x, h1, h2⟩ := RVs.get (i := i) r (by simpa using e)
    exact ⟨x, by simpa using h1, h2⟩
  | _, _, _, _, .nil, e => by simp at e
theorem RVs.get' : ∀ {xs : List V} {vs : List PV} {i : Nat} {x : V}, RVs B ρ H xs vs → xs[i]? = some x → ∃ v, vs[i]? = some v ∧ RV B ρ H x v
  | _, _, 0, _, .cons h _, e => by simp at e; subst e; exact ⟨_, rfl, h⟩
  | _, _, i + 1, _, .cons _ r, e => by
    obtain ⟨x, h1, h2⟩ := RVs.get' (i := i) r (by simpa using e)
    exact ⟨x, by simpa using h1, h2⟩
  | _, _, _, _, .nil, e => by simp at e
theorem RVs.append : ∀ {xs ys : List V} {vs ws : List PV}, RVs B ρ H xs vs → RVs B ρ H ys ws → RVs B ρ H (xs ++ ys) (vs ++ ws)
  | _, _, _, _, .nil, r => r
  | _, _, _, _, .cons h r, r' => .cons h (RVs.append r r')
theorem RVs.take : ∀ {xs : List V} {vs : List PV} (n : Nat), RVs B ρ H xs vs → RVs B ρ H (xs.take n) (vs.take n)
  | _, _, 0, _ => .nil
  | _, _, _ + 1, .nil => .nil
  | _, _, n + 1, .cons h r => .cons h (RVs.take n r)
theorem RVs.drop : ∀ {xs : List V} {vs : List PV} (n : Nat), RVs B ρ H xs vs → RVs B ρ H (xs.drop n) (vs.drop n)
  | _, _, 0, r => r
  | _, _, _ + 1, .nil => .nil
  | _, _, n + 1, .cons _ r => RVs.drop n r
theorem RVs.set {x : V} {v : PV} (h : RV B ρ H x v) : ∀ {xs : List V} {vs : List PV} (i : Nat), RVs B ρ H xs vs → RVs B ρ H (xs.set i x) (vs.set i v)
  | _, _, _, .nil => .nil
  | _, _, 0, .cons _ r => .cons h r
  | _, _, i + 1, .cons q r => .cons q (RVs.set h i r)
theorem RVs.eraseIdx : ∀ {xs : List V} {vs : List PV} (i : Nat), RVs B ρ H xs vs → RVs B ρ H (xs.eraseIdx i) (vs.eraseIdx i)
  | _, _, _, .nil => .nil
  | _, _, 0, .cons _ r => r
  | _, _, i + 1, .cons q r => .cons q (RVs.eraseIdx i r)
theorem RVs.reverse {xs : List V} {vs : List PV} (h : RVs B ρ H xs vs) : RVs B ρ H xs.reverse vs.reverse := by
  induction xs generalizing vs with
  | nil => cases h; exact .nil
  | cons x xs ih =>
    cases h with
    | cons h r =>
      rw [List.reverse_cons, List.reverse_cons]
      exact (ih r).append (.cons h .nil)
theorem RVs.dropLast {xs : List V} {vs : List PV} (h : RVs B ρ H xs vs) : RVs B ρ H xs.dropLast vs.dropLast := by
  rw [List.dropLast_eq_take, List.dropLast_eq_take, h.length]
  exact h.take _
theorem RVs.rep {xs : List V} {vs : List PV} (h : RVs B ρ H xs vs) : ∀ k : Nat, RVs B ρ H (List.replicate k xs).flatten (List.replicate k vs).flatten
  | 0 => .nil
  | k + 1 => by
    rw [List.replicate_succ, List.replicate_succ, List.flatten_cons, List.flatten_cons]
    exact h.append (RVs.rep h k)
theorem RVs.ints : ∀ {xs : List V} {vs : List PV} {ns : List Int}, RVs B ρ H xs vs → intsOf vs = some ns → xs = ns.map L2.V.int
  | _, _, _, .nil, e => by cases e; rfl
  | _, _, _, .cons (v := .int i) h r, e => by
    unfold intsOf at e
    cases h
    cases q : intsOf _ with
    | none => rw [q] at e; cases e
    | some l =>
      rw [q] at e
      cases e
      rw [List.map_cons, ← RVs.ints r q]
  | _, _, _, .cons (v := .non) h r, e => by cases e
  | _, _, _, .cons (v := .bl _) h r, e => by cases e
  | _, _, _, .cons (v := .str _) h r, e => by cases e
  | _, _, _, .cons (v := .tup _) h r, e => by cases e
  | _, _, _, .cons (v := .lst _) h r, e => by cases e
  | _, _, _, .cons (v := .scr _) h r, e => by cases e
  | _, _, _, .cons (v := .dK _) h r, e => by cases e
  | _, _, _, .cons (v := .dT _) h r, e => by cases e
  | _, _, _, .cons (v := .set _) h r, e => by cases e
  | _, _, _, .cons (v := .rng _ _) h r, e => by cases e
  | _, _, _, .cons (v := .ref _) h r, e => by cases e
  | _, _, _, .cons (v := .fn _) h r, e => by cases e
  | _, _, _, .cons (v := .exc _ _) h r, e => by cases e
  | _, _, _, .cons (v := .cb) h r, e => by cases e
theorem RVs.bls : ∀ {xs : List V} {vs : List PV} {bs : List Bool}, RVs B ρ H xs vs → blsOf vs = some bs → xs = bs.map L2.V.bl
  | _, _, _, .nil, e => by cases e; rfl
  | _, _, _, .cons (v := .bl i) h r, e => by
    unfold blsOf at e
    cases h
    cases q : blsOf _ with
    | none => rw [q] at e; cases e
    | some l =>
      rw [q] at e
      cases e
      rw [List.map_cons, ← RVs.bls r q]
  | _, _, _, .cons (v := .non) h r, e => by cases e
  | _, _, _, .cons (v := .int _) h r, e => by cases e
  | _, _, _, .cons (v := .str _) h r, e => by cases e
  | _, _, _, .cons (v := .tup _) h r, e => by cases e
  | _, _, _, .cons (v := .lst _) h r, e => by cases e
  | _, _, _, .cons (v := .scr _) h r, e => by cases e
  | _, _, _, .cons (v := .dK _) h r, e => by cases e
  | _, _, _, .cons (v := .dT _) h r, e => by cases e
  | _, _, _, .cons (v := .set _) h r, e => by cases e
  | _, _, _, .cons (v := .rng _ _) h r, e => by cases e
  | _, _, _, .cons (v := .ref _) h r, e => by cases e
  | _, _, _, .cons (v := .fn _) h r, e => by cases e
  | _, _, _, .cons (v := .exc _ _) h r, e => by cases e
  | _, _, _, .cons (v := .cb) h r, e => by cases e
theorem RVs.of_ints : ∀ ns : List Int, RVs B ρ H (ns.map L2.V.int) (ns.map PV.int)
  | [] => .nil
  | n :: ns => .cons (.int n) (RVs.of_ints ns)
mutual
theorem RV.dp : ∀ {x : V} {v : PV} {d : PyData}, RV B ρ H x v → toD v = some d → L2.Dp B.K H x d
  | _, _, _, .non, e => by cases e; exact .non
  | _, _, _, .bl b, e => by cases e; exact .bl b
  | _, _, _, .int i, e => by cases e; exact .int i
  | _, _, _, .str s, e => by cases e; exact .str s
  | _, _, d, .tup (vs := vs) h r, e => by
    have e' : (toDs vs).map PyData.tuple = some d := by unfold toD at e; exact e
    cases q : toDs vs with
    | none => rw [q] at e'; cases e'
    | some ds =>
      rw [q] at e'
      cases e'
      exact .tup h.sq (RVs.dp r q)
  | _, _, d, .lst (vs := vs) h _ r, e => by
    have e' : (toDs vs).map PyData.list = some d := by unfold toD at e; exact e
    cases q : toDs vs with
    | none => rw [q] at e'; cases e'
    | some ds =>
      rw [q] at e'
      cases e'
      exact .lst (.inl (.inl h)) (RVs.dp r q)
  | _, _, _, .scr _, e => by unfold toD at e; cases e
  | _, _, _, .dK _ _, e => by unfold toD at e; cases e
  | _, _, _, .set _ _ _ _, e => by unfold toD at e; cases e
  | _, _, _, .rng _, e => by unfold toD at e; cases e
  | _, _, _, .ref _, e => by unfold toD at e; cases e
  | _, _, _, .fn _, e => by unfold toD at e; cases e
  | _, _, _, .exc _, e => by unfold toD at e; cases e
  | _, _, _, .cb _, e => by unfold toD at e; cases e
theorem RVs.dp : ∀ {xs : List V} {vs : List PV} {ds : List PyData}, RVs B ρ H xs vs → toDs vs = some ds → L2.DpAll B.K H xs ds
  | _, _, _, .nil, e => by unfold toDs at e; cases e; exact .nil
  | _, _, ds, .cons (v := v) (vs := vs) h r, e => by
    unfold toDs at e
    cases q : toD v with
    | none => rw [q] at e; cases e
    | some d =>
      cases q2 : toDs vs with
      | none => rw [q, q2] at e; cases e
      | some ds' =>
        rw [q, q2] at e
        cases e
        exact .cons (RV.dp h q) (RVs.dp r q2)
end
mutual
theorem toD_plain : ∀ {v : PV} {d : PyData}, toD v = some d → d.plain = true
  | .non, _, e => by cases e; rfl
  | .bl _, _, e => by cases e; rfl
  | .int _, _, e => by cases e; rfl
  | .str _, _, e => by cases e; rfl
  | .tup vs, d, e => by
    have e' : (toDs vs).map PyData.tuple = some d := by unfold toD at e; exact e
    cases q : toDs vs with
    | none => rw [q] at e'; cases e'
    | some ds =>
      rw [q] at e'
      cases e'
      unfold PyData.plain
      exact toDs_plain q
  | .lst vs, d, e => by
    have e' : (toDs vs).map PyData.list = some d := by unfold toD at e; exact e
    cases q : toDs vs with
    | none => rw [q] at e'; cases e'
    | some ds =>
      rw [q] at e'
      cases e'
      unfold PyData.plain
      exact toDs_plain q
  | .scr _, _, e => by unfold toD at e; cases e
  | .dK _, _, e => by unfold toD at e; cases e
  | .dT _, _, e => by unfold toD at e; cases e
  | .set _, _, e => by unfold toD at e; cases e
  | .rng _ _, _, e => by unfold toD at e; cases e
  | .ref _, _, e => by unfold toD at e; cases e
  | .fn _, _, e => by unfold toD at e; cases e
  | .exc _ _, _, e => by unfold toD at e; cases e
  | .cb, _, e => by unfold toD at e; cases e
theorem toDs_plain : ∀ {vs : List PV} {ds : List PyData}, toDs vs = some ds → PyData.plainAll ds = true
  | [], _, e => by unfold toDs at e; cases e; rfl
  | v :: vs, ds, e => by
    unfold toDs at e
    cases q : toD v with
    | none => rw [q] at e; cases e
    | some d =>
      cases q2 : toDs vs with
      | none => rw [q, q2] at e; cases e
      | some ds' =>
        rw [q, q2] at e
        cases e
        unfold PyData.plainAll
        rw [toD_plain q, toDs_plain q2]
        rfl
end
variable {h : Hv}
/-- a value in a list's place, read -/
theorem lst_at (r : RH B ρ h H) {x : V} {v : PV} {vs : List PV} (rv : RV B ρ H x v) (e : lstOf h v = some vs) : ∃ a xs, x = .ref a ∧ H a = some (.lst xs) ∧ RVs B ρ H xs vs := by
  cases rv with
  | lst hl _ rs =>
    cases e
    exact ⟨_, _, rfl, hl, rs⟩
  | @ref k a hk =>
    obtain ⟨c, e1, rc⟩ := r.tracked hk
    have e : cellL h k = some vs := e
    unfold cellL at e
    rw [e1] at e
    cases c with
    | lst ws =>
      cases e
      obtain ⟨xs, h1, h2⟩ := rc
      exact ⟨a, xs, rfl, h1, h2⟩
    | dK _ => cases e
    | dT _ => cases e
    | ins _ _ => cases e
  | _ => cases e
theorem seq_at (r : RH B ρ h H) {x : V} {v : PV} {vs : List PV} (rv : RV B ρ H x v) (e : seqOf h v = some vs) : ∃ a xs, x = .ref a ∧ (L2.SqL B.K H a xs ∨ L2.SqT B.K H a xs) ∧ RVs B ρ H xs vs := by
  cases v with
  | tup ws =>
    cases e
    cases rv with
    | tup ht rs => exact ⟨_, _, rfl, .inr ht.sq, rs⟩
  | scr ns =>
    cases e
    cases rv with
    | scr ht => exact ⟨_, _, rfl, .inl ht.sq, RVs.of_ints ns⟩
  | _ =>
    obtain ⟨a, xs, h1, h2, h3⟩ := lst_at r rv e
    exact ⟨a, xs, h1, .inl (.inl (.inl h2)), h3⟩
theorem dK_at (r : RH B ρ h H) {x : V} {v : PV} {kvs : List (Key × PV)} (rv : RV B ρ H x v) (e : dKOf h v = some kvs) : ∃ a xs, x = .ref a ∧ L2.Rd H a (.dK xs) ∧ RKs B ρ H xs kvs := by
  cases rv with
  | dK hl rs =>
    cases e
    exact ⟨_, _, rfl, hl.1, rs⟩
  | @ref k a hk =>
    obtain ⟨c, e1, rc⟩ := r.tracked hk
    have e : cellK h k = some kvs := e
    unfold cellK at e
    rw [e1] at e
    cases c with
    | dK ws =>
      cases e
      obtain ⟨xs, h1, h2⟩ := rc
      exact ⟨a, xs, rfl, .inl h1, h2⟩
    | lst _ => cases e
    | dT _ => cases e
    | ins _ _ => cases e
  | _ => cases e
theorem dp_at (r : RH B ρ h H) {x : V} {v : PV} {d : PyData} (rv : RV B ρ H x v) (e : toDh h v = some d) : L2.Dp B.K H x d ∧ d.plain = true := by
  cases v with
  | ref k =>
    have e : (cellL h k).bind (fun xs => (toDs xs).map PyData.list) = some d := e
    cases q : cellL h k with
    | none => rw [q] at e; cases e
    | some ws =>
      rw [q] at e
      have e' : (toDs ws).map PyData.list = some d := e
      cases q2 : toDs ws with
      | none => rw [q2] at e'; cases e'
      | some ds =>
        rw [q2] at e'
        cases e'
        obtain ⟨a, xs, h1, h2, h3⟩ := lst_at (v := .ref k) r rv q
        subst h1
        refine ⟨.lst (.inl (.inl h2)) (h3.dp q2), ?_⟩
        unfold PyData.plain
        exact toDs_plain q2
  | _ => exact ⟨rv.dp e, toD_plain e⟩
end
end HS
end
-- text EvPost
section
set_option Elab.async false
set_option linter.all false
set_option maxRecDepth 100000

/-! What is wanted behind a run, and the readings made of it. -/
namespace HS
open PySem
abbrev XK := L2.XK
/-- how an exception lies: its class by name, its fields in its own dict -/
def RX (B : Bs) (ρ : List Addr) (H : Hp) (cls : Value) (d : Option Addr) (e : PV) : Prop :=
  ∃ c fs C dx xs, e = .exc c fs ∧ cls = .ref C ∧ B.mg c = some (.ref C) ∧ d = some dx ∧ (H dx = some (.xd xs) ∧ Out B ρ dx) ∧ ∀ f v, fs.lookup f = some v → ∃ x, xs.lookup f = some x ∧ RV B ρ H x v
def PostR {α β : Type} (B : Bs) (RA : List Addr → Hp → β → α → Prop) (E : XK) (ρ : List Addr) (H : Hp) (r : Res α) (Q : β → Hp → Prop) : Prop := match r with
  | .ok a h' => ∀ ρ' H' b, Step B ρ H ρ' H' → RH B ρ' h' H' → RA ρ' H' b a → Q b H'
  | .exc e h' => ∀ ρ' H' cls d, Step B ρ H ρ' H' → RH B ρ' h' H' → RX B ρ' H' cls d e → E cls d H'
  | .stuck => False
section
variable {B : Bs} {E : XK} {α β γ δ : Type} {RA : List Addr → Hp → β → α → Prop} {RG : List Addr → Hp → δ → γ → Prop} {ρ ρ' : List Addr} {H H' : Hp} {h : Hv}
theorem PostR.mono {r : Res α} {Q Q' : β → Hp → Prop} (p : PostR B RA E ρ H r Q) (hq : ∀ b H', Q b H' → Q' b H') : PostR B RA E ρ H r Q' := by
  cases r with
  | ok a h' => exact fun ρ' H' b s r a => hq b H' (p ρ' H' b s r a)
  | exc e h' => exact p
  | stuck => exact p
theorem PostR.step {r : Res α} {Q : β → Hp → Prop} (p : PostR B RA E ρ H r Q) (s : Step B ρ H ρ' H') : PostR B RA E ρ' H' r Q := by
  cases r with
  | ok a h' => exact fun ρ2 H2 b t r a => p ρ2 H2 b (s.trans t) r a
  | exc e h' => exact fun ρ2 H2 c d t r x => p ρ2 H2 c d (s.trans t) r x
  | stuck => exact p
/-- what holds between two runs in a row -/
def Mid (B : Bs) (E : XK) (RA : List Addr → Hp → β → α → Prop) (RG : List Addr → Hp → δ → γ → Prop) (ρ : List Addr) (H : Hp) (f : α → M γ) (Q : δ → Hp → Prop) (b : β) (H1 : Hp) : Prop :=
  ∃ ρ1 h1 a, Step B ρ H ρ1 H1 ∧ RH B ρ1 h1 H1 ∧ RA ρ1 H1 b a ∧ PostR B RG E ρ1 H1 (f a h1) Q
theorem PostR.bnd {x : M α} {f : α → M γ} {Q : δ → Hp → Prop} (p : PostR B RG E ρ H ((x.bnd f) h) Q) : PostR B RA E ρ H (x h) (Mid B E RA RG ρ H f Q) := by
  have e : (x.bnd f) h = (match x h with
    | .ok a h' => f a h'
    | .exc e h' => .exc e h'
    | .stuck => .stuck) := rfl
  rw [e] at p
  cases q : x h with
  | ok a h' =>
    rw [q] at p
    exact fun ρ1 H1 b s r ra => ⟨ρ1, h', a, s, r, ra, p.step s⟩
  | exc e h' =>
    rw [q] at p
    exact p
  | stuck =>
    rw [q] at p
    exact p
theorem PostR.ret {a : α} {b : β} {Q : β → Hp → Prop} (p : PostR B RA E ρ H (.ok a h) Q) (r : RH B ρ h H) (ra : RA ρ H b a) : Q b H := p ρ H b .refl r ra
end
abbrev PostV (B : Bs) := PostR B (RV B)
abbrev PostVs (B : Bs) := PostR B (RVs B)
abbrev RB : List Addr → Hp → Bool → Bool → Prop := fun _ _ a b => a = b

theorem RS.set {B : Bs} {ρ : List Addr} {H : Hp} {sg : Sg} {σ : L2.St} (r : RS B ρ H sg σ) {x : V} {v : PV} (i : Nat) (rv : RV B ρ H x v) : RS B ρ H (sg.set i (some v)) (σ.set i (some x)) :=
  ⟨by rw [List.length_set, List.length_set, r.len], fun j w e => by
    by_cases hj : i = j
    · subst hj
      by_cases hl : i < sg.length
      · rw [List.getElem?_set_self hl] at e
        cases e
        exact ⟨x, List.getElem?_set_self (by rw [← r.len]; exact hl), rv⟩
      · rw [List.getElem?_eq_none (by rw [List.length_set]; omega)] at e
        cases e
    · rw [List.getElem?_set_ne hj] at e ⊢
      exact r.get j w e⟩
theorem RS.clear {B : Bs} {ρ : List Addr} {H : Hp} {sg : Sg} {σ : L2.St} (r : RS B ρ H sg σ) (i : Nat) : RS B ρ H (sg.set i none) (σ.set i none) :=
  ⟨by rw [List.length_set, List.length_set, r.len], fun j w e => by
    by_cases hj : i = j
    · subst hj
      by_cases hl : i < sg.length
      · rw [List.getElem?_set_self hl] at e
        cases e
      · rw [List.getElem?_eq_none (by rw [List.length_set]; omega)] at e
        cases e
    · rw [List.getElem?_set_ne hj] at e ⊢
      exact r.get j w e⟩
theorem RS.wipe {B : Bs} {ρ : List Addr} {H : Hp} {sg : Sg} {σ : L2.St} (r : RS B ρ H sg σ) : ∀ vs : List Nat, RS B ρ H (wipeS sg vs) (L2.wipe σ vs)
  | [] => r
  | v :: vs => (RS.wipe r vs).clear v

/-! ### readings -/
def tE (B : Bs) (E : XK) (f : ES) : L2.TE := fun σ H Q => ∃ hd ρ sg h, RS (B.wh hd) ρ H sg σ ∧ RH (B.wh hd) ρ h H ∧ PostV (B.wh hd) E ρ H (f sg h) Q
def tT (B : Bs) (E : XK) (f : TSm) : L2.TT := fun σ H Q => ∃ hd ρ sg h, RS (B.wh hd) ρ H sg σ ∧ RH (B.wh hd) ρ h H ∧ PostR (B.wh hd) RB E ρ H (f sg h) Q
def tA (B : Bs) (E : XK) (f : Sg → M (List PV)) : L2.TA := fun σ H Q => ∃ hd ρ sg h, RS (B.wh hd) ρ H sg σ ∧ RH (B.wh hd) ρ h H ∧ PostVs (B.wh hd) E ρ H (f sg h) Q
/-- the reading of an operation on two values -/
def rOp (B : Bs) (E : XK) (f : PV → PV → M PV) : L2.R2 := fun x y H Q => ∃ hd ρ h v w, RH (B.wh hd) ρ h H ∧ RV (B.wh hd) ρ H x v ∧ RV (B.wh hd) ρ H y w ∧ PostV (B.wh hd) E ρ H (f v w h) Q
def rUn (B : Bs) (E : XK) (f : PV → M PV) : V → Hp → L2.VK → Prop := fun x H Q => ∃ hd ρ h v, RH (B.wh hd) ρ h H ∧ RV (B.wh hd) ρ H x v ∧ PostV (B.wh hd) E ρ H (f v h) Q
def rTr (B : Bs) (E : XK) : V → Hp → (Bool → Hp → Prop) → Prop := fun x H Q => ∃ hd ρ h v, RH (B.wh hd) ρ h H ∧ RV (B.wh hd) ρ H x v ∧ PostR (B.wh hd) RB E ρ H (truthM v h) Q
def rCl (B : Bs) (E : XK) (f : List PV → M PV) : List V → Hp → L2.VK → Prop := fun xs H Q => ∃ hd ρ h vs, RH (B.wh hd) ρ h H ∧ RVs (B.wh hd) ρ H xs vs ∧ PostV (B.wh hd) E ρ H (f vs h) Q
section
variable {B : Bs} {E : XK} {σ : L2.St} {H : Hp}
theorem tE.mono {f : ES} {Q Q' : L2.VK} (t : tE B E f σ H Q) (hq : ∀ x H', Q x H' → Q' x H') : tE B E f σ H Q' :=
  let ⟨hd, ρ, sg, h, a, b, p⟩ := t
  ⟨hd, ρ, sg, h, a, b, p.mono hq⟩
/-- two in a row -/
theorem tE.bin {f a b : ES} {g : PV → PV → M PV} {Q : L2.VK} (e : ∀ sg, f sg = (a sg).bnd fun x => (b sg).bnd fun y => g x y) (t : tE B E f σ H Q) : tE B E a σ H fun x H1 => tE B E b σ H1 fun y H2 => rOp B E g x y H2 Q := by
  obtain ⟨hd, ρ, sg, h, rs, rh, p⟩ := t
  rw [e] at p
  refine ⟨hd, ρ, sg, h, rs, rh, p.bnd.mono fun x H1 ⟨ρ1, h1, v, s1, r1, rv, p1⟩ => ?_⟩
  refine ⟨hd, ρ1, sg, h1, rs.step s1, r1, p1.bnd.mono fun y H2 ⟨ρ2, h2, w, s2, r2, rw', p2⟩ => ?_⟩
  exact ⟨hd, ρ2, h2, v, w, r2, rv.step s2, rw', p2⟩
theorem tE.un {f a : ES} {g : PV → M PV} {Q : L2.VK} (e : ∀ sg, f sg = (a sg).bnd g) (t : tE B E f σ H Q) : tE B E a σ H fun x H1 => rUn B E g x H1 Q := by
  obtain ⟨hd, ρ, sg, h, rs, rh, p⟩ := t
  rw [e] at p
  exact ⟨hd, ρ, sg, h, rs, rh, p.bnd.mono fun x H1 ⟨ρ1, h1, v, s1, r1, rv, p1⟩ => ⟨hd, ρ1, h1, v, r1, rv, p1⟩⟩
end
end HS
end
-- text EvOps
section
set_option Elab.async false
set_option linter.all false
set_option maxRecDepth 100000

/-! The operations keep what the evaluator says. -/
namespace HS
open PySem PySem.Spec PyProof.Rows
abbrev bsOf (X : L2.Cx) (T : Tx) : Bs := ⟨X.K, X.mg, T, X.w, []⟩
abbrev bW (X : L2.Cx) (T : Tx) (hd : List Addr) : Bs := ⟨X.K, X.mg, T, X.w, hd⟩
section
variable {X : L2.Cx} {T : Tx} {hd : List Addr} {E : XK} {ρ : List Addr} {H : Hp} {h : Hv} {Q : L2.VK}
/-- a scalar comes out, the cells as they are -/
theorem fin0 {v : PV} {x : V} (p : PostV (bW X T hd) E ρ H (.ok v h) Q) (rh : RH (bW X T hd) ρ h H) (r : RV (bW X T hd) ρ H x v) : Q x H := p.ret rh r
/-- a new list comes out -/
theorem finL {m : Bool} {vs : List PV} {xs : List V} {p : Addr} (q : PostV (bW X T hd) E ρ H (mkL m vs h) Q) (rh : RH (bW X T hd) ρ h H) (rs : RVs (bW X T hd) ρ H xs vs) (hp : H p = none) : Q (.ref p) (L2.upd H p (.lst xs)) := by
  unfold mkL at q
  by_cases hz : vs.length ≤ sizeLine
  · rw [if_pos hz] at q
    cases m with
    | true =>
      have s : Step (bW X T hd) ρ H (ρ ++ [p]) (L2.upd H p (.lst xs)) := Step.cell hp
      refine q _ _ _ s (rh.alloc hp ⟨xs, L2.upd_same, rs.step s⟩) (.ref ?_)
      rw [← rh.len, List.getElem?_append_right (Nat.le_refl _)]
      simp
    | false =>
      have s : Step (bW X T hd) ρ H ρ (L2.upd H p (.lst xs)) := Step.laid hp
      exact q _ _ _ s (rh.laid hp) (.lst L2.upd_same (rh.fresh hp) (rs.step s))
  · rw [if_neg hz] at q
    exact q.elim
theorem len_mkL {m : Bool} {vs : List PV} (q : PostV (bW X T hd) E ρ H (mkL m vs h) Q) : vs.length ≤ sizeLine := by
  unfold mkL at q
  by_cases hz : vs.length ≤ sizeLine
  · exact hz
  · rw [if_neg hz] at q
    exact q.elim
theorem len_mkT {vs : List PV} (q : PostV (bW X T hd) E ρ H (mkT vs h) Q) : vs.length ≤ sizeLine := by
  unfold mkT at q
  by_cases hz : vs.length ≤ sizeLine
  · exact hz
  · rw [if_neg hz] at q
    exact q.elim
theorem mkT_ok {vs : List PV} (q : PostV (bW X T hd) E ρ H (mkT vs h) Q) : PostV (bW X T hd) E ρ H (.ok (.tup vs) h) Q := by
  have hz := len_mkT q
  unfold mkT at q
  rw [if_pos hz] at q
  exact q
/-- a new tuple comes out -/
theorem finT {vs : List PV} {xs : List V} {p : Addr} (q : PostV (bW X T hd) E ρ H (.ok (.tup vs) h) Q) (rh : RH (bW X T hd) ρ h H) (rs : RVs (bW X T hd) ρ H xs vs) (hp : H p = none) : Q (.ref p) (L2.upd H p (.tup xs)) := by
  have s : Step (bW X T hd) ρ H ρ (L2.upd H p (.tup xs)) := Step.laid hp
  exact q _ _ _ s (rh.laid hp) (.tup (.inl ⟨.inl L2.upd_same, rh.fresh hp⟩) (rs.step s))
theorem rv_int {x : V} {i : Int} (r : RV (bW X T hd) ρ H x (.int i)) : x = .int i := by cases r; rfl
theorem rv_str {x : V} {i : Str} (r : RV (bW X T hd) ρ H x (.str i)) : x = .str i := by cases r; rfl
theorem rv_bl {x : V} {i : Bool} (r : RV (bW X T hd) ρ H x (.bl i)) : x = .bl i := by cases r; rfl
theorem rv_non {x : V} (r : RV (bW X T hd) ρ H x .non) : x = .non := by cases r; rfl
theorem rv_tup {x : V} {vs : List PV} (r : RV (bW X T hd) ρ H x (.tup vs)) : ∃ a xs, x = .ref a ∧ L2.SqT X.K H a xs ∧ RVs (bW X T hd) ρ H xs vs := by
  cases r with
  | tup ht rs => exact ⟨_, _, rfl, ht.sq, rs⟩
theorem stk_no {α β : Type} {RA : List Addr → Hp → β → α → Prop} {B : Bs} {Q : β → Hp → Prop} {P : Prop} (p : PostR B RA E ρ H (M.stk h) Q) : P := (show False from p).elim

theorem op_bAdd {m : Bool} : L2.OpR X (binaryOp .Add) (rOp (bsOf X T) E (bAdd m)) := by
  intro pins s σ H x y v u Q I rx ry ⟨hd, ρ, h, pv, pw, rh, r1, r2, p⟩
  dsimp only [bAdd] at p
  split at p
  · obtain rfl := rv_int r1
    split at p
    · obtain rfl := rv_int r2
      exact L2.op_add pins s σ H _ _ v u Q I rx ry ⟨_, _, rfl, rfl, fin0 p rh (.int _)⟩
    · exact p.elim
  · obtain rfl := rv_str r1
    split at p
    · obtain rfl := rv_str r2
      split at p
      · rename_i hz
        exact L2.op_add_str pins s σ H _ _ v u Q I rx ry ⟨_, _, rfl, rfl, hz, fin0 p rh (.str _)⟩
      · exact p.elim
    · exact p.elim
  · obtain ⟨a, xs, rfl, ha, rs⟩ := rv_tup r1
    split at p
    · obtain ⟨b, ys, rfl, hb, rt⟩ := rv_tup r2
      have hz := len_mkT p
      have p2 := mkT_ok p
      rw [List.length_append] at hz
      refine L2.op_catA pins s σ H _ _ v u Q I rx ry ⟨a, b, xs, ys, rfl, rfl, ha, hb, by rw [rs.length, rt.length]; exact hz, fun e => ?_, fun _ e => ?_, fun _ _ q hq => finT p2 rh (rs.append rt) hq⟩
      · subst e
        cases rs
        exact fin0 p2 rh r2
      · subst e
        cases rt
        rw [List.append_nil] at p2
        exact fin0 p2 rh r1
    · exact p.elim
  · split at p
    · rename_i a e1
      split at p
      · rename_i b e2
        obtain ⟨l, xs, rfl, hl, rs⟩ := lst_at rh r1 e1
        obtain ⟨l2, ys, rfl, hl2, rt⟩ := lst_at rh r2 e2
        have hz := len_mkL p
        rw [List.length_append] at hz
        exact L2.op_cat pins s σ H _ _ v u Q I rx ry ⟨l, l2, xs, ys, rfl, rfl, hl, hl2, by rw [rs.length, rt.length]; exact hz, fun q hq => finL p rh (rs.append rt) hq⟩
      · exact p.elim
    · exact p.elim
theorem op_bMul {m : Bool} : L2.OpR X (binaryOp .Mult) (rOp (bsOf X T) E (bMul m)) := by
  intro pins s σ H x y v u Q I rx ry ⟨hd, ρ, h, pv, pw, rh, r1, r2, p⟩
  dsimp only [bMul] at p
  split at p
  · obtain rfl := rv_int r2
    split at p
    · obtain rfl := rv_int r1
      split at p
      · rename_i hz
        exact L2.op_mul pins s σ H _ _ v u Q I rx ry ⟨_, _, rfl, rfl, hz, fin0 p rh (.int _)⟩
      · exact p.elim
    · obtain ⟨a, xs, rfl, ha, rs⟩ := rv_tup r1
      split at p
      · rename_i hz
        obtain ⟨h1, h2, h3, h4⟩ := hz
        refine L2.op_repT pins s σ H _ _ v u Q I rx ry ⟨a, _, xs, rfl, rfl, ha, fun e => ?_, h2, h3, by rw [rs.length]; exact h4, fun q hq => finT p rh (rs.rep _) hq⟩
        subst e
        cases rs
        simp at h1
      · exact p.elim
    · split at p
      · rename_i a e1
        obtain ⟨l, xs, rfl, hl, rs⟩ := lst_at rh r1 e1
        split at p
        · rename_i hz
          obtain ⟨h1, h2, h3⟩ := hz
          exact L2.op_rep pins s σ H _ _ v u Q I rx ry ⟨l, _, xs, rfl, rfl, hl, h2, h3, by rw [rs.length]; exact h1, fun q hq => finL p rh (rs.rep _) hq⟩
        · exact p.elim
      · exact p.elim
  · exact p.elim
theorem op_bSub : L2.OpR X (binaryOp .Sub) (rOp (bsOf X T) E bSub) := by
  intro pins s σ H x y v u Q I rx ry ⟨hd, ρ, h, pv, pw, rh, r1, r2, p⟩
  dsimp only [bSub] at p
  split at p
  · obtain rfl := rv_int r1
    split at p
    · obtain rfl := rv_int r2
      exact L2.op_sub pins s σ H _ _ v u Q I rx ry ⟨_, _, rfl, rfl, fin0 p rh (.int _)⟩
    · exact p.elim
  · exact p.elim
theorem op_bDiv : L2.OpR X (binaryOp .FloorDiv) (rOp (bsOf X T) E bDiv) := by
  intro pins s σ H x y v u Q I rx ry ⟨hd, ρ, h, pv, pw, rh, r1, r2, p⟩
  dsimp only [bDiv] at p
  split at p
  · obtain rfl := rv_int r1
    split at p
    · obtain rfl := rv_int r2
      split at p
      · rename_i hz
        exact L2.op_fdivW pins s σ H _ _ v u Q I rx ry ⟨_, _, rfl, rfl, L2.wide_div hz.1 (b := 9000) (by have := hz.1; have := hz.2; omega) (by decide) (Nat.le_refl _), fin0 p rh (.int _)⟩
      · exact p.elim
    · exact p.elim
  · exact p.elim
theorem op_bMod : L2.OpR X (binaryOp .Mod) (rOp (bsOf X T) E bMod) := by
  intro pins s σ H x y v u Q I rx ry ⟨hd, ρ, h, pv, pw, rh, r1, r2, p⟩
  dsimp only [bMod] at p
  split at p
  · obtain rfl := rv_int r1
    split at p
    · obtain rfl := rv_int r2
      split at p
      · rename_i hz
        exact L2.op_mod pins s σ H _ _ v u Q I rx ry ⟨_, _, rfl, rfl, hz, fin0 p rh (.int _)⟩
      · exact p.elim
    · exact p.elim
  · exact p.elim
theorem op_bPow : L2.OpR X (binaryOp .Pow) (rOp (bsOf X T) E bPow) := by
  intro pins s σ H x y v u Q I rx ry ⟨hd, ρ, h, pv, pw, rh, r1, r2, p⟩
  dsimp only [bPow] at p
  split at p
  · obtain rfl := rv_int r1
    split at p
    · obtain rfl := rv_int r2
      split at p
      · rename_i hz
        exact L2.op_pow pins s σ H _ _ v u Q I rx ry ⟨_, _, rfl, rfl, hz, fin0 p rh (.int _)⟩
      · exact p.elim
    · exact p.elim
  · exact p.elim
theorem op_bAnd : L2.OpR X (binaryOp .BitAnd) (rOp (bsOf X T) E bAnd) := by
  intro pins s σ H x y v u Q I rx ry ⟨hd, ρ, h, pv, pw, rh, r1, r2, p⟩
  dsimp only [bAnd] at p
  split at p
  · obtain rfl := rv_int r1
    split at p
    · obtain rfl := rv_int r2
      exact L2.op_and pins s σ H _ _ v u Q I rx ry ⟨_, _, rfl, rfl, fin0 p rh (.int _)⟩
    · exact p.elim
  · exact p.elim
theorem op_bin {m : Bool} {op : Operator} {f : PV → PV → M PV} (e : binD m op = some f) : L2.OpR X (binaryOp op) (rOp (bsOf X T) E f) := by
  cases op <;> first | cases e | skip
  · exact op_bAdd
  · exact op_bSub
  · exact op_bMul
  · exact op_bMod
  · exact op_bPow
  · exact op_bAnd
  · exact op_bDiv
theorem un_uNeg : L2.UnR X (unaryOp .USub) (rUn (bsOf X T) E uNeg) := by
  intro pins s σ H x v Q I rx ⟨hd, ρ, h, pv, rh, r1, p⟩
  dsimp only [uNeg] at p
  split at p
  · obtain rfl := rv_int r1
    exact L2.un_neg pins s σ H _ v Q I rx ⟨_, rfl, fin0 p rh (.int _)⟩
  · exact p.elim

/-! ### comparisons -/
theorem ofO_map {α β γ : Type} {RA : List Addr → Hp → γ → β → Prop} {B : Bs} {o : Option α} {f : α → β} {Q : γ → Hp → Prop} (p : PostR B RA E ρ H (M.ofO (o.map f) h) Q) : ∃ a, o = some a ∧ PostR B RA E ρ H (.ok (f a) h) Q := by
  cases o with
  | none => exact (show False from p).elim
  | some a => exact ⟨a, rfl, p⟩
theorem eqB_some {v w : PV} {b : Bool} (e : eqB h v w = some b) : ∃ d f, toDh h v = some d ∧ toDh h w = some f ∧ min d.depth f.depth ≤ 100 ∧ b = PyData.eqv d f := by
  unfold eqB at e
  split at e
  · rename_i d f e1 e2
    split at e
    · rename_i hz
      cases e
      exact ⟨d, f, e1, e2, hz, rfl⟩
    · cases e
  · cases e
theorem op_cEq (hu : X.A.units + 200 < cLine) : L2.OpR X (compareOp .Eq) (rOp (bsOf X T) E cEq) := by
  intro pins s σ H x y v u Q I rx ry ⟨hd, ρ, h, pv, pw, rh, r1, r2, p⟩
  obtain ⟨b, e, p⟩ := ofO_map (f := PV.bl) p
  obtain ⟨d, f, e1, e2, hz, rfl⟩ := eqB_some e
  obtain ⟨q1, q2⟩ := dp_at rh r1 e1
  obtain ⟨q3, q4⟩ := dp_at rh r2 e2
  obtain ⟨as, t1⟩ := L2.Dp.reads I d x v q1 rx
  obtain ⟨bs, t2⟩ := L2.Dp.reads I f y u q3 ry
  exact PySem.SeqAt.eq_plain t1 t2 q2 q4 (by omega) ⟨.bl _, H, I, rfl, fin0 p rh (.bl _)⟩
theorem op_cNe (hu : X.A.units + 200 < cLine) : L2.OpR X (compareOp .NotEq) (rOp (bsOf X T) E cNe) := by
  intro pins s σ H x y v u Q I rx ry ⟨hd, ρ, h, pv, pw, rh, r1, r2, p⟩
  obtain ⟨b, e, p⟩ := ofO_map (f := fun b => PV.bl (!b)) p
  obtain ⟨d, f, e1, e2, hz, rfl⟩ := eqB_some e
  obtain ⟨q1, q2⟩ := dp_at rh r1 e1
  obtain ⟨q3, q4⟩ := dp_at rh r2 e2
  obtain ⟨as, t1⟩ := L2.Dp.reads I d x v q1 rx
  obtain ⟨bs, t2⟩ := L2.Dp.reads I f y u q3 ry
  exact PySem.SeqAt.ne_plain t1 t2 q2 q4 (by omega) ⟨.bl _, H, I, rfl, fin0 p rh (.bl _)⟩

theorem toDs_mk {f : List PyData → PyData} {ws : List PV} (hf : ∀ ds, f ds ≠ .none) (e : (toDs ws).map f = some .none) : False := by
  cases q : toDs ws with
  | none => rw [q] at e; cases e
  | some ds =>
    rw [q] at e
    exact hf ds (Option.some.inj e)
theorem toDh_non {v : PV} (e : toDh h v = some .none) : v = .non := by
  cases v with
  | non => rfl
  | ref k =>
    have e : (cellL h k).bind (fun xs => (toDs xs).map PyData.list) = some .none := e
    obtain ⟨ws, _, e2⟩ := Option.bind_eq_some_iff.mp e
    exact (toDs_mk (f := PyData.list) (fun ds z => by cases z) e2).elim
  | tup ws =>
    have e : toD (.tup ws) = some .none := e
    unfold toD at e
    exact (toDs_mk (f := PyData.tuple) (fun ds z => by cases z) e).elim
  | lst ws =>
    have e : toD (.lst ws) = some .none := e
    unfold toD at e
    exact (toDs_mk (f := PyData.list) (fun ds z => by cases z) e).elim
  | bl b => cases e
  | int b => cases e
  | str b => cases e
  | scr b => cases e
  | dK b => cases e
  | dT b => cases e
  | set b => cases e
  | rng a b => cases e
  | fn a => cases e
  | exc a b => cases e
  | cb => cases e
theorem ord_some {f : Int → Int → Bool} {g : PyData → PyData → Bool} {v w : PV} {b : Bool} (e : ordB f g h v w = some b) : (∃ i j, v = .int i ∧ w = .int j ∧ b = f i j) ∨
    ∃ d k, toDh h v = some d ∧ toDh h w = some k ∧ d ≠ .none ∧ min d.depth k.depth ≤ 100 ∧ PySem.W.alike d k = true ∧ b = g d k := by
  by_cases hv : v = .non
  · subst hv
    cases e
  unfold ordB at e
  split at e
  · split at e
    · cases e
      exact .inl ⟨_, _, rfl, rfl, rfl⟩
    · cases e
  · cases e
  · split at e
    · rename_i d e1
      split at e
      · rename_i k e2
        split at e
        · rename_i hz
          cases e
          exact .inr ⟨d, k, e1, e2, fun z => hv (toDh_non (z ▸ e1)), hz.1, hz.2, rfl⟩
        · cases e
      · cases e
    · cases e
theorem op_cLt (hu : X.A.units + 200 < cLine) : L2.OpR X (compareOp .Lt) (rOp (bsOf X T) E cLt) := by
  intro pins s σ H x y v u Q I rx ry ⟨hd, ρ, h, pv, pw, rh, r1, r2, p⟩
  obtain ⟨b, e, p⟩ := ofO_map (f := PV.bl) p
  rcases ord_some e with ⟨i, j, rfl, rfl, rfl⟩ | ⟨d, f, e1, e2, hn, hz, ha, rfl⟩
  · obtain rfl := rv_int r1
    obtain rfl := rv_int r2
    exact L2.op_lt pins s σ H _ _ v u Q I rx ry ⟨_, _, rfl, rfl, fin0 p rh (.bl _)⟩
  · obtain ⟨q1, q2⟩ := dp_at rh r1 e1
    obtain ⟨q3, q4⟩ := dp_at rh r2 e2
    obtain ⟨as, t1⟩ := L2.Dp.reads I d x v q1 rx
    obtain ⟨bs, t2⟩ := L2.Dp.reads I f y u q3 ry
    exact PySem.W.lt_data t1 t2 ha hn (by omega) ⟨.bl _, H, I, rfl, fin0 p rh (.bl _)⟩
theorem op_cGt (hu : X.A.units + 200 < cLine) : L2.OpR X (compareOp .Gt) (rOp (bsOf X T) E cGt) := by
  intro pins s σ H x y v u Q I rx ry ⟨hd, ρ, h, pv, pw, rh, r1, r2, p⟩
  obtain ⟨b, e, p⟩ := ofO_map (f := PV.bl) p
  rcases ord_some e with ⟨i, j, rfl, rfl, rfl⟩ | ⟨d, f, e1, e2, hn, hz, ha, rfl⟩
  · obtain rfl := rv_int r1
    obtain rfl := rv_int r2
    exact L2.op_gt pins s σ H _ _ v u Q I rx ry ⟨_, _, rfl, rfl, fin0 p rh (.bl _)⟩
  · obtain ⟨q1, q2⟩ := dp_at rh r1 e1
    obtain ⟨q3, q4⟩ := dp_at rh r2 e2
    obtain ⟨as, t1⟩ := L2.Dp.reads I d x v q1 rx
    obtain ⟨bs, t2⟩ := L2.Dp.reads I f y u q3 ry
    exact PySem.W.gt_data t1 t2 ha hn (by omega) ⟨.bl _, H, I, rfl, fin0 p rh (.bl _)⟩
theorem op_cLe (hu : X.A.units + 200 < cLine) : L2.OpR X (compareOp .LtE) (rOp (bsOf X T) E cLe) := by
  intro pins s σ H x y v u Q I rx ry ⟨hd, ρ, h, pv, pw, rh, r1, r2, p⟩
  obtain ⟨b, e, p⟩ := ofO_map (f := PV.bl) p
  rcases ord_some e with ⟨i, j, rfl, rfl, rfl⟩ | ⟨d, f, e1, e2, hn, hz, ha, rfl⟩
  · obtain rfl := rv_int r1
    obtain rfl := rv_int r2
    exact L2.op_le pins s σ H _ _ v u Q I rx ry ⟨_, _, rfl, rfl, fin0 p rh (.bl _)⟩
  · obtain ⟨q1, q2⟩ := dp_at rh r1 e1
    obtain ⟨q3, q4⟩ := dp_at rh r2 e2
    obtain ⟨as, t1⟩ := L2.Dp.reads I d x v q1 rx
    obtain ⟨bs, t2⟩ := L2.Dp.reads I f y u q3 ry
    exact PySem.W.le_data t1 t2 ha hn (by omega) ⟨.bl _, H, I, rfl, fin0 p rh (.bl _)⟩
theorem op_cGe (hu : X.A.units + 200 < cLine) : L2.OpR X (compareOp .GtE) (rOp (bsOf X T) E cGe) := by
  intro pins s σ H x y v u Q I rx ry ⟨hd, ρ, h, pv, pw, rh, r1, r2, p⟩
  obtain ⟨b, e, p⟩ := ofO_map (f := PV.bl) p
  rcases ord_some e with ⟨i, j, rfl, rfl, rfl⟩ | ⟨d, f, e1, e2, hn, hz, ha, rfl⟩
  · obtain rfl := rv_int r1
    obtain rfl := rv_int r2
    exact L2.op_ge pins s σ H _ _ v u Q I rx ry ⟨_, _, rfl, rfl, fin0 p rh (.bl _)⟩
  · obtain ⟨q1, q2⟩ := dp_at rh r1 e1
    obtain ⟨q3, q4⟩ := dp_at rh r2 e2
    obtain ⟨as, t1⟩ := L2.Dp.reads I d x v q1 rx
    obtain ⟨bs, t2⟩ := L2.Dp.reads I f y u q3 ry
    exact PySem.W.ge_data t1 t2 ha hn (by omega) ⟨.bl _, H, I, rfl, fin0 p rh (.bl _)⟩

theorem reads_seq {pins : List (Addr × Obj)} {s : Shared} {σ : L2.St} {a : Addr} {xs : List V} {ws : List PV} {ds : List PyData} (I : L2.Inv X pins σ H s) (hs : L2.SqL X.K H a xs ∨ L2.SqT X.K H a xs) (rs : RVs (bW X T hd) ρ H xs ws) (e : toDs ws = some ds) :
    (∃ as, Reads s.heap (.ref a) (.list ds) as) ∨ ∃ as, Reads s.heap (.ref a) (.tuple ds) as := by
  rcases hs with hs | hs
  · exact .inl (L2.Dp.reads I (.list ds) (.ref a) (.ref a) (.lst hs (rs.dp e)) rfl)
  · exact .inr (L2.Dp.reads I (.tuple ds) (.ref a) (.ref a) (.tup hs (rs.dp e)) rfl)
theorem keyOf_rv {x : V} {v : PV} {k : Key} (r : RV (bW X T hd) ρ H x v) (e : keyOf v = some k) : x = L2.kV k := by
  cases r <;> cases e <;> rfl
theorem RKs.val {B : Bs} : ∀ {xs : List (Key × V)} {vs : List (Key × PV)} (_ : RKs B ρ H xs vs) (k : Key), (∀ v, valOf vs k = some v → ∃ x, L2.valV xs k = some x ∧ RV B ρ H x v) ∧ (L2.valV xs k).isSome = (valOf vs k).isSome
  | _, _, .nil, k => ⟨fun v e => (nomatch e), rfl⟩
  | _, _, .cons (k := c) (x := x) (xs := xs) (v := v) (vs := vs) r rs, k => by
    have ih := RKs.val rs k
    by_cases hk : c = k
    · have e1 : valOf ((c, v) :: vs) k = some v := by simp [valOf, hk]
      have e2 : L2.valV ((c, x) :: xs) k = some x := L2.valV_pos hk
      rw [e1, e2]
      exact ⟨fun w e => ⟨x, rfl, Option.some.inj e ▸ r⟩, rfl⟩
    · have e1 : valOf ((c, v) :: vs) k = valOf vs k := by simp [valOf, hk]
      have e2 : L2.valV ((c, x) :: xs) k = L2.valV xs k := L2.valV_neg hk
      rw [e1, e2]
      exact ih
theorem in_some {v w : PV} {b : Bool} (e : inB h v w = some b) : (∃ t z, w = .str t ∧ v = .str z ∧ b = !(Builtin.Str.occurrences t z 0 t.length 1).isEmpty) ∨ (∃ xs i, w = .set xs ∧ v = .int i ∧ b = decide (i ∈ xs)) ∨
    (∃ xs d ds, seqOf h w = some xs ∧ toDh h v = some d ∧ toDs xs = some ds ∧ d.depth ≤ 100 ∧ b = ds.any fun e => PyData.eqv e d) ∨ ∃ kvs k, dKOf h w = some kvs ∧ keyOf v = some k ∧ b = (valOf kvs k).isSome := by
  unfold inB at e
  split at e
  · split at e
    · cases e
      exact .inl ⟨_, _, rfl, rfl, rfl⟩
    · cases e
  · split at e
    · cases e
      exact .inr (.inl ⟨_, _, rfl, rfl, rfl⟩)
    · cases e
  · split at e
    · rename_i xs e1
      split at e
      · rename_i d e2
        split at e
        · rename_i ds e3
          split at e
          · rename_i hz
            cases e
            exact .inr (.inr (.inl ⟨xs, d, ds, e1, e2, e3, hz, rfl⟩))
          · cases e
        · cases e
      · cases e
    · split at e
      · rename_i kvs e1
        obtain ⟨k, e2, e3⟩ := Option.map_eq_some_iff.mp e
        exact .inr (.inr (.inr ⟨kvs, k, e1, e2, e3.symm⟩))
      · cases e
theorem op_cIn (hu : X.A.units + 200 < cLine) : L2.OpR X (compareOp .In) (rOp (bsOf X T) E cIn) := by
  intro pins s σ H x y v u Q I rx ry ⟨hd, ρ, h, pv, pw, rh, r1, r2, p⟩
  obtain ⟨b, e, p⟩ := ofO_map (f := PV.bl) p
  rcases in_some e with ⟨t, z, rfl, rfl, rfl⟩ | ⟨xs, i, rfl, rfl, rfl⟩ | ⟨xs, d, ds, e1, e2, e3, hz, rfl⟩ | ⟨kvs, k, e1, e2, rfl⟩
  · obtain rfl := rv_str r1
    obtain rfl := rv_str r2
    exact L2.op_in_str pins s σ H _ _ v u Q I rx ry ⟨_, _, rfl, rfl, fin0 p rh (.bl _)⟩
  · obtain rfl := rv_int r1
    cases r2 with
    | set ha hn hS hl =>
      rw [← hS] at p
      exact L2.or_sin pins s σ H _ _ v u Q I rx ry ⟨_, _, _, _, rfl, rfl, ha, fin0 p rh (.bl _)⟩
  · obtain ⟨a, ys, rfl, hs, rs⟩ := seq_at rh r2 e1
    cases ry
    obtain ⟨q1, q2⟩ := dp_at rh r1 e2
    obtain ⟨as, t1⟩ := L2.Dp.reads I d x v q1 rx
    have hp := toDs_plain e3
    rcases reads_seq I hs rs e3 with ⟨bs, t2⟩ | ⟨bs, t2⟩
    · exact PySem.SeqAt.in_list_data t2 t1 hp q2 (by omega) ⟨.bl _, H, I, rfl, fin0 p rh (.bl _)⟩
    · exact PySem.SeqAt.in_tuple_data t2 t1 hp q2 (by omega) ⟨.bl _, H, I, rfl, fin0 p rh (.bl _)⟩
  · obtain ⟨a, ys, rfl, hs, rs⟩ := dK_at rh r2 e1
    cases ry
    obtain rfl := keyOf_rv r1 e2
    refine L2.d_in (by omega) I (o := L2.valV ys k) (.inl ⟨ys, k, hs, rfl, rfl⟩) rx fun s' I' => ⟨.bl _, H, I', rfl, ?_⟩
    rw [(rs.val k).2]
    exact fin0 p rh (.bl _)
theorem op_cNotIn (hu : X.A.units + 200 < cLine) : L2.OpR X (compareOp .NotIn) (rOp (bsOf X T) E cNotIn) := by
  intro pins s σ H x y v u Q I rx ry ⟨hd, ρ, h, pv, pw, rh, r1, r2, p⟩
  obtain ⟨b, e, p⟩ := ofO_map (f := fun b => PV.bl (!b)) p
  rcases in_some e with ⟨t, z, rfl, rfl, rfl⟩ | ⟨xs, i, rfl, rfl, rfl⟩ | ⟨xs, d, ds, e1, e2, e3, hz, rfl⟩ | ⟨kvs, k, e1, e2, rfl⟩
  · obtain rfl := rv_str r1
    obtain rfl := rv_str r2
    exact L2.op_notIn_str pins s σ H _ _ v u Q I rx ry ⟨_, _, rfl, rfl, fin0 p rh (.bl _)⟩
  · obtain rfl := rv_int r1
    cases r2 with
    | set ha hn hS hl =>
      rw [← hS] at p
      exact L2.or_snotin pins s σ H _ _ v u Q I rx ry ⟨_, _, _, _, rfl, rfl, ha, fin0 p rh (.bl _)⟩
  · obtain ⟨a, ys, rfl, hs, rs⟩ := seq_at rh r2 e1
    cases ry
    obtain ⟨q1, q2⟩ := dp_at rh r1 e2
    obtain ⟨as, t1⟩ := L2.Dp.reads I d x v q1 rx
    have hp := toDs_plain e3
    rcases reads_seq I hs rs e3 with ⟨bs, t2⟩ | ⟨bs, t2⟩
    · exact PySem.SeqAt.notIn_list_data t2 t1 hp q2 (by omega) ⟨.bl _, H, I, rfl, fin0 p rh (.bl _)⟩
    · exact PySem.SeqAt.notIn_tuple_data t2 t1 hp q2 (by omega) ⟨.bl _, H, I, rfl, fin0 p rh (.bl _)⟩
  · obtain ⟨a, ys, rfl, hs, rs⟩ := dK_at rh r2 e1
    cases ry
    obtain rfl := keyOf_rv r1 e2
    refine L2.d_notIn (by omega) I (o := L2.valV ys k) (.inl ⟨ys, k, hs, rfl, rfl⟩) rx fun s' I' => ⟨.bl _, H, I', rfl, ?_⟩
    rw [(rs.val k).2]
    exact fin0 p rh (.bl _)
theorem is_some {v w : PV} {b : Bool} (e : isB v w = some b) : (∃ a c, v = .bl a ∧ w = .bl c ∧ b = decide (a = c)) ∨ (w = .non ∧ ∀ {B : Bs} {x : V}, RV B ρ H x v → b = decide (x = .non)) := by
  unfold isB at e
  split at e
  · refine .inr ⟨rfl, fun {B x} r => ?_⟩
    cases r <;> cases e <;> first | rfl | (symm; exact decide_eq_false (fun z => by cases z))
  · split at e
    · cases e
      exact .inl ⟨_, _, rfl, rfl, rfl⟩
    · cases e
  · cases e
theorem op_cIs : L2.OpR X (compareOp .Is) (rOp (bsOf X T) E cIs) := by
  intro pins s σ H x y v u Q I rx ry ⟨hd, ρ, h, pv, pw, rh, r1, r2, p⟩
  obtain ⟨b, e, p⟩ := ofO_map (f := PV.bl) p
  rcases is_some (ρ := ρ) (H := H) e with ⟨a, c, rfl, rfl, rfl⟩ | ⟨rfl, hb⟩
  · obtain rfl := rv_bl r1
    obtain rfl := rv_bl r2
    exact L2.op_isBl pins s σ H _ _ v u Q I rx ry ⟨_, _, rfl, rfl, fin0 p rh (.bl _)⟩
  · obtain rfl := rv_non r2
    obtain rfl := hb r1
    exact L2.op_isN pins s σ H _ _ v u Q I rx ry ⟨rfl, fin0 p rh (.bl _)⟩
theorem op_cIsNot : L2.OpR X (compareOp .IsNot) (rOp (bsOf X T) E cIsNot) := by
  intro pins s σ H x y v u Q I rx ry ⟨hd, ρ, h, pv, pw, rh, r1, r2, p⟩
  obtain ⟨b, e, p⟩ := ofO_map (f := fun b => PV.bl (!b)) p
  rcases is_some (ρ := ρ) (H := H) e with ⟨a, c, rfl, rfl, rfl⟩ | ⟨rfl, hb⟩
  · obtain rfl := rv_bl r1
    obtain rfl := rv_bl r2
    exact L2.op_notBl pins s σ H _ _ v u Q I rx ry ⟨_, _, rfl, rfl, fin0 p rh (.bl _)⟩
  · obtain rfl := rv_non r2
    obtain rfl := hb r1
    exact L2.op_notN pins s σ H _ _ v u Q I rx ry ⟨rfl, fin0 p rh (.bl _)⟩
theorem op_cmp (hu : X.A.units + 200 < cLine) (op : CmpOp) : L2.OpR X (compareOp op) (rOp (bsOf X T) E (cmpD op)) := by
  cases op
  · exact op_cEq hu
  · exact op_cNe hu
  · exact op_cLt hu
  · exact op_cLe hu
  · exact op_cGt hu
  · exact op_cGe hu
  · exact op_cIs
  · exact op_cIsNot
  · exact op_cIn hu
  · exact op_cNotIn hu

/-! ### truth, items, slices -/
theorem tru_truth : L2.TruR X (rTr (bsOf X T) E) := by
  intro pins s σ H x v Q I rx ⟨hd, ρ, h, pv, rh, r1, p⟩
  have p : PostR (bW X T hd) RB E ρ H (M.ofO ((truthOf h pv).map id) h) Q := by
    rw [Option.map_id]
    exact p
  obtain ⟨b, e, p⟩ := ofO_map (f := id) p
  refine L2.tru_ok pins s σ H x v Q I rx ⟨b, ?_, p ρ H b .refl rh rfl⟩
  cases r1 with
  | non => cases e; rfl
  | bl _ => cases e; rfl
  | int _ => cases e; rfl
  | str z =>
    have e : (if z.length ≤ sizeLine then some ((z.length : Int) != 0) else none) = some b := e
    split at e
    · rename_i hz
      cases e
      exact ⟨hz, rfl⟩
    · cases e
  | tup ht rs =>
    cases e
    exact .inr (.inl ⟨_, ht.sq, by cases rs <;> rfl⟩)
  | lst hl _ rs =>
    cases e
    exact .inl ⟨_, .inl (.inl hl), by cases rs <;> rfl⟩
  | @scr _ ns hl =>
    cases e
    exact .inl ⟨_, hl.sq, by cases ns <;> rfl⟩
  | @ref k a hk =>
    have e : (match cellL h k with | some xs => some (!xs.isEmpty) | none => none) = some b := e
    split at e
    · rename_i xs q
      cases e
      obtain ⟨a', ys, e2, hl, rs⟩ := lst_at (v := .ref k) rh (.ref hk) q
      cases e2
      exact .inl ⟨_, .inl (.inl hl), by cases rs <;> rfl⟩
    · cases e
  | _ => cases e
theorem atI_map {α β : Type} {xs : List α} {ys : List β} (hl : xs.length = ys.length) {i : Int} {y : β} (e : L2.atI ys i = some y) : ∃ j : Nat, ys[j]? = some y ∧ ∀ x, xs[j]? = some x → L2.atI xs i = some x := by
  unfold L2.atI at e
  obtain ⟨j, h1, h2⟩ := Option.bind_eq_some_iff.mp e
  refine ⟨j, h2, fun x hx => ?_⟩
  unfold L2.atI
  rw [hl, h1]
  exact hx
theorem ix_sIx (hu : X.A.units + 200 < cLine) : L2.IxR X (rOp (bsOf X T) E sIx) := by
  intro value slice pins s σ H x y v u Q I rx ry ⟨hd, ρ, h, pv, pw, rh, r1, r2, p⟩ hsub
  have p : PostV (bW X T hd) E ρ H (M.ofO ((ixB h pv pw).map id) h) Q := by
    rw [Option.map_id]
    exact p
  obtain ⟨z, e, pz⟩ := ofO_map (f := id) p
  clear p
  unfold ixB at e
  split at e
  · rename_i xs e1
    split at e
    · rename_i n
      obtain rfl := rv_int r2
      obtain ⟨a, ys, rfl, hs, rs⟩ := seq_at rh r1 e1
      obtain ⟨j, h1, h2⟩ := atI_map rs.length e
      obtain ⟨x, h3, h4⟩ := rs.get h1
      have q := h2 x h3
      have hQ := fin0 pz rh h4
      rcases hs with hs | hs
      · exact L2.ix_list value slice pins s σ H _ _ v u Q I rx ry ⟨a, ys, _, x, rfl, rfl, hs, q, hQ⟩ hsub
      · exact L2.ix_tup value slice pins s σ H _ _ v u Q I rx ry ⟨a, ys, _, x, rfl, rfl, hs, q, hQ⟩ hsub
    · cases e
  · split at e
    · rename_i kvs e1
      obtain ⟨k, e2, e3⟩ := Option.bind_eq_some_iff.mp e
      obtain ⟨a, ys, rfl, hs, rs⟩ := dK_at rh r1 e1
      cases rx
      obtain rfl := keyOf_rv r2 e2
      obtain ⟨x, h3, h4⟩ := (rs.val k).1 _ e3
      have g : L2.DGet H a (L2.kV k) (some x) := .inl ⟨ys, k, hs, rfl, h3.symm⟩
      exact tail_any (L2.dict_typeIs I g) PySem.F.slot_dict_getitem.lookup (L2.d_getItem (by omega) I g ry fun w' s' I' rw' => ⟨x, H, I', rw', fin0 pz rh h4⟩) hsub
    · split at e
      · split at e
        · split at e
          · rename_i hz
            obtain rfl := rv_str r1
            obtain rfl := rv_int r2
            obtain ⟨c, e2, e3⟩ := Option.map_eq_some_iff.mp e
            subst e3
            exact L2.ix_str value slice pins s σ H _ _ v u Q I rx ry ⟨_, _, c, rfl, rfl, hz, e2, fin0 pz rh (.str _)⟩ hsub
          · cases e
        · cases e
      · cases e
end
end HS
end
-- text EvCall
section
set_option Elab.async false
set_option linter.all false
set_option maxRecDepth 100000

/-! Built-ins, methods, stores and slices keep what the evaluator says. -/
namespace HS
open PySem PySem.Spec PyProof.Rows
section
variable {X : L2.Cx} {T : Tx} {hd : List Addr} {E : XK}
theorem vals1 {x : V} {us : List Value} (r : L2.Vals [x] us) : ∃ u, us = [u] ∧ L2.RelV x u := r.one
/-- one argument: the reading of a call by values -/
def rC1 (B : Bs) (E : XK) (f : PV → M PV) : List V → Hp → L2.VK → Prop := fun xs H Q => ∃ x, xs = [x] ∧ rUn B E f x H Q
def rC2 (B : Bs) (E : XK) (f : PV → PV → M PV) : List V → Hp → L2.VK → Prop := fun xs H Q => ∃ x y, xs = [x, y] ∧ rOp B E f x y H Q

theorem c_len : L2.CallR X (.builtin "len") (rC1 (bsOf X T) E bLen) := by
  intro pins s σ H xs us Q I r ⟨x, ex, hd, ρ, h, pv, rh, r1, p⟩
  subst ex
  dsimp only [bLen] at p
  split at p
  · rename_i n e
    have pq : Q (.int n) H := fin0 p rh (.int _)
    unfold lenB at e
    split at e
    · obtain rfl := rv_str r1
      split at e
      · rename_i hz
        cases e
        exact L2.call_len_str pins s σ H _ us Q I r ⟨_, rfl, hz, pq⟩
      · cases e
    · split at e
      · rename_i q
        cases e
        obtain ⟨a, ys, rfl, hs, rs⟩ := seq_at rh r1 q
        rw [← rs.length] at pq
        exact L2.call_len_seq pins s σ H _ us Q I r ⟨a, ys, rfl, hs, pq⟩
      · obtain ⟨kvs, q, e2⟩ := Option.map_eq_some_iff.mp e
        obtain ⟨a, ys, rfl, hs, rs⟩ := dK_at rh r1 q
        obtain ⟨u, rfl, ru⟩ := vals1 r
        cases ru
        refine L2.d_len I hs fun t s' I' => ⟨.int _, H, I', ⟨t, rfl⟩, ?_⟩
        rw [rs.length, e2]
        exact pq
  · exact p.elim
theorem c_all (hc : X.calm = true) : L2.CallR X (.builtin "all") (rC1 (bsOf X T) E bAll) := by
  intro pins s σ H xs us Q I r ⟨x, ex, hd, ρ, h, pv, rh, r1, p⟩
  subst ex
  dsimp only [bAll] at p
  split at p
  · rename_i bs e
    obtain ⟨vs, e1, e2⟩ := Option.bind_eq_some_iff.mp e
    obtain ⟨a, ys, rfl, hl, rs⟩ := lst_at rh r1 e1
    obtain rfl := rs.bls e2
    exact L2.cr_all hc pins s σ H _ us Q I r ⟨a, bs, rfl, .inl (.inl hl), fin0 p rh (.bl _)⟩
  · exact p.elim
theorem c_any (hc : X.calm = true) : L2.CallR X (.builtin "any") (rC1 (bsOf X T) E bAny) := by
  intro pins s σ H xs us Q I r ⟨x, ex, hd, ρ, h, pv, rh, r1, p⟩
  subst ex
  dsimp only [bAny] at p
  split at p
  · rename_i bs e
    obtain ⟨vs, e1, e2⟩ := Option.bind_eq_some_iff.mp e
    obtain ⟨a, ys, rfl, hl, rs⟩ := lst_at rh r1 e1
    obtain rfl := rs.bls e2
    exact L2.cr_any hc pins s σ H _ us Q I r ⟨a, bs, rfl, .inl (.inl hl), fin0 p rh (.bl _)⟩
  · exact p.elim
theorem c_tuple : L2.CallR X (.type "tuple") (rC1 (bsOf X T) E bTuple) := by
  intro pins s σ H xs us Q I r ⟨x, ex, hd, ρ, h, pv, rh, r1, p⟩
  subst ex
  dsimp only [bTuple] at p
  split at p
  · obtain ⟨a, ys, rfl, hs, rs⟩ := rv_tup r1
    exact L2.call_tuple_of pins s σ H _ us Q I r ⟨a, ys, rfl, .inr ⟨hs, fin0 p rh r1⟩⟩
  · split at p
    · rename_i e1
      obtain ⟨a, ys, rfl, hl, rs⟩ := lst_at rh r1 e1
      exact L2.call_tuple_of pins s σ H _ us Q I r ⟨a, ys, rfl, .inl ⟨.inl (.inl hl), fun q hq => finT (mkT_ok p) rh rs hq⟩⟩
    · exact p.elim
theorem RKs.keys {B : Bs} {ρ : List Addr} {H : Hp} : ∀ {xs : List (Key × V)} {vs : List (Key × PV)}, RKs B ρ H xs vs → RVs B ρ H (xs.map fun kv => L2.kV kv.1) (vs.map fun kv => keyV kv.1)
  | _, _, .nil => .nil
  | _, _, .cons (k := .inl i) _ r => .cons (.int i) (RKs.keys r)
  | _, _, .cons (k := .inr x) _ r => .cons (.str x) (RKs.keys r)
theorem c_list {m : Bool} (hc : X.calm = true) : L2.CallR X (.type "list") (rC1 (bsOf X T) E (bList m)) := by
  intro pins s σ H xs us Q I r ⟨x, ex, hd, ρ, h, pv, rh, r1, p⟩
  subst ex
  dsimp only [bList] at p
  split at p
  · rename_i e1
    obtain ⟨a, ys, rfl, hs, rs⟩ := seq_at rh r1 e1
    exact L2.call_list_of pins s σ H _ us Q I r ⟨a, ys, rfl, hs, fun q hq => finL p rh rs hq⟩
  · split at p
    · rename_i e1
      obtain ⟨a, ys, rfl, hs, rs⟩ := dK_at rh r1 e1
      exact L2.call_listD hc pins s σ H _ us Q I r ⟨a, ys, rfl, hs, fun q hq => finL p rh rs.keys hq⟩
    · exact p.elim
theorem c_int : L2.CallR X (.type "int") (rC1 (bsOf X T) E bInt) := by
  intro pins s σ H xs us Q I r ⟨x, ex, hd, ρ, h, pv, rh, r1, p⟩
  subst ex
  dsimp only [bInt] at p
  split at p
  · obtain rfl := rv_int r1
    exact L2.call_int1 pins s σ H _ us Q I r (.inl ⟨_, rfl, fin0 p rh (.int _)⟩)
  · obtain rfl := rv_bl r1
    exact L2.call_int1 pins s σ H _ us Q I r (.inr ⟨_, rfl, fin0 p rh (.int _)⟩)
  · exact p.elim
theorem c_str : L2.CallR X (.type "str") (rC1 (bsOf X T) E bStr) := by
  intro pins s σ H xs us Q I r ⟨x, ex, hd, ρ, h, pv, rh, r1, p⟩
  subst ex
  dsimp only [bStr] at p
  split at p
  · obtain rfl := rv_int r1
    split at p
    · rename_i hz
      exact L2.call_str_int pins s σ H _ us Q I r ⟨_, rfl, hz, fin0 p rh (.str _)⟩
    · exact p.elim
  · obtain rfl := rv_str r1
    exact SkE.call_str_str pins s σ H _ us Q I r ⟨_, rfl, fin0 p rh (.str _)⟩
  · exact p.elim
theorem c_max2 (hc : X.calm = true) : L2.CallR X (.builtin "max") (rC2 (bsOf X T) E bMax2) := by
  intro pins s σ H xs us Q I r ⟨x, y, ex, hd, ρ, h, pv, pw, rh, r1, r2, p⟩
  subst ex
  dsimp only [bMax2] at p
  split at p
  · rename_i i
    obtain rfl := rv_int r1
    split at p
    · rename_i j
      obtain rfl := rv_int r2
      refine L2.call_max2 hc pins s σ H _ us Q I r ⟨_, _, rfl, ?_⟩
      have e : (if j > i then j else i) = max i j := by omega
      rw [e]
      exact fin0 p rh (.int _)
    · exact p.elim
  · exact p.elim
theorem c_min2 (hc : X.calm = true) : L2.CallR X (.builtin "min") (rC2 (bsOf X T) E bMin2) := by
  intro pins s σ H xs us Q I r ⟨x, y, ex, hd, ρ, h, pv, pw, rh, r1, r2, p⟩
  subst ex
  dsimp only [bMin2] at p
  split at p
  · rename_i i
    obtain rfl := rv_int r1
    split at p
    · rename_i j
      obtain rfl := rv_int r2
      refine L2.call_min2 hc pins s σ H _ us Q I r ⟨_, _, rfl, ?_⟩
      have e : (if j < i then j else i) = min i j := by omega
      rw [e]
      exact fin0 p rh (.int _)
    · exact p.elim
  · exact p.elim

/-! ### isinstance -/
theorem kit_all {K : PySem.W.Frag} {t c : String} (ht : t ∈ ["NoneType", "bool", "int", "str", "tuple", "list", "dict"]) (hc : c ∈ ["int", "bool", "tuple", "str", "list", "dict"]) : PySem.W.kitOne K (.type t) (.type c) = some (t == c || (t == "bool" && c == "int")) := by
  simp only [List.mem_cons, List.not_mem_nil, or_false] at ht hc
  rcases ht with rfl | rfl | rfl | rfl | rfl | rfl | rfl <;> rcases hc with rfl | rfl | rfl | rfl | rfl | rfl <;> exact L2.kit_ty (by decide +kernel)
theorem c_isi {c : String} (hc : c ∈ ["int", "bool", "tuple", "str", "list", "dict"]) (pins : List (Addr × Obj)) (s : Shared) (σ : L2.St) (H : Hp) (x : V) (u : Value) (Q : L2.VK) (I : L2.Inv X pins σ H s) (rx : L2.RelV x u) (q : rUn (bsOf X T) E (bIsi c) x H Q) :
    wpAny (model X.prog X.w) X.A (call (.builtin "isinstance") [u, .type c]) (L2.EP X pins σ Q) X.xe s := by
  obtain ⟨hd, ρ, h, pv, rh, r1, p⟩ := q
  dsimp only [bIsi] at p
  split at p
  · rename_i t e
    have fin : ∀ tk, L2.EP X pins σ Q (.bool (t == c || (t == "bool" && c == "int"))) { s with toks := tk } := fun tk => ⟨.bl _, H, I.kept (t' := tk) fun _ _ z => z, rfl, fin0 p rh (.bl _)⟩
    have hk : ∀ {t' : String}, t' = t → t' ∈ ["NoneType", "bool", "int", "str", "tuple", "list", "dict"] → PySem.W.kitOne X.K (.type t') (.type c) = some (t == c || (t == "bool" && c == "int")) := fun {t'} z hm => by
      subst z
      exact kit_all hm hc
    cases r1 with
    | non => exact L2.isinst_ok I rx .non (hk (Option.some.inj e) (by decide)) fin
    | bl b => exact L2.isinst_ok I rx (.bl b) (hk (Option.some.inj e) (by decide)) fin
    | int b => exact L2.isinst_ok I rx (.int b) (hk (Option.some.inj e) (by decide)) fin
    | str b => exact L2.isinst_ok I rx (.str b) (hk (Option.some.inj e) (by decide)) fin
    | tup ht _ =>
      cases rx
      obtain ⟨its, rv, ⟨o, h1, h2, _⟩, _⟩ := I.tuple ht.sq
      exact PySem.W.kia_one PySem.W.kitx_tuple I.kIn ⟨o, h1, h2⟩ (hk (Option.some.inj e) (by decide)) (fun z => nomatch z) fin
    | lst hl _ _ => exact L2.isinst_ok I rx (.lst hl) (hk (Option.some.inj e) (by decide)) fin
    | dK hl _ =>
      cases rx
      obtain ⟨_, _, vs, _, o, es, ep, h1, h2, _⟩ := L2.dk_rd I.hok hl.1
      exact PySem.W.kia_one PySem.W.kitx_dict I.kIn ⟨o, h1, h2.1⟩ (hk (Option.some.inj e) (by decide)) (fun z => nomatch z) fin
    | @ref k a ha =>
      obtain ⟨c0, e0, rc⟩ := rh.tracked ha
      have e : (match h[k]? with
        | some (.lst _) => some "list"
        | some (.dK _) => some "dict"
        | _ => none) = some t := e
      rw [e0] at e
      cases c0 with
      | lst vs =>
        obtain ⟨xs, hx, _⟩ := rc
        exact L2.isinst_ok I rx (.lst hx) (hk (Option.some.inj e) (by decide)) fin
      | dK vs =>
        obtain ⟨xs, hx, _⟩ := rc
        exact L2.isinst_ok I rx (.dK hx) (hk (Option.some.inj e) (by decide)) fin
      | dT _ => cases e
      | ins _ _ => cases e
    | _ => cases e
  · exact p.elim

/-! ### methods of lists -/
theorem recv_at {ρ : List Addr} {H : Hp} {h : Hv} {x : V} {v : PV} {k : Nat} {vs : List PV} (rh : RH (bW X T hd) ρ h H) (r : RV (bW X T hd) ρ H x v) (e : recvL h v = some (k, vs)) :
    ∃ a xs, x = .ref a ∧ ρ[k]? = some a ∧ h[k]? = some (.lst vs) ∧ H a = some (.lst xs) ∧ RVs (bW X T hd) ρ H xs vs := by
  cases r with
  | @ref j a hk =>
    have e : (cellL h j).map (fun xs => (j, xs)) = some (k, vs) := e
    obtain ⟨ws, e1, e2⟩ := Option.map_eq_some_iff.mp e
    cases e2
    obtain ⟨c0, e0, rc⟩ := rh.tracked hk
    unfold cellL at e1
    rw [e0] at e1
    cases c0 with
    | lst ws =>
      cases e1
      obtain ⟨xs, h1, h2⟩ := rc
      exact ⟨a, xs, rfl, hk, e0, h1, h2⟩
    | dK _ => cases e1
    | dT _ => cases e1
    | ins _ _ => cases e1
  | _ => cases e
/-- a list's cell is written: the end -/
theorem finW {ρ : List Addr} {H : Hp} {h : Hv} {k : Nat} {a : Addr} {vs : List PV} {xs : List V} {y : PV} {x : V} {Q : L2.VK} (p : PostV (bW X T hd) E ρ H (.ok y (setC h k (.lst vs))) Q) (rh : RH (bW X T hd) ρ h H) (hk : ρ[k]? = some a)
    (rs : ∀ {H'}, Step (bW X T hd) ρ H ρ H' → RVs (bW X T hd) ρ H' xs vs) (ry : ∀ {H'}, Step (bW X T hd) ρ H ρ H' → RV (bW X T hd) ρ H' x y) : Q x (L2.upd H a (.lst xs)) := by
  obtain ⟨c0, e0, r0⟩ := rh.tracked hk
  obtain ⟨o0, h0, h1, h2⟩ := r0.live
  have s : Step (bW X T hd) ρ H ρ (L2.upd H a (.lst xs)) := Step.write hk h0 h1 h2
  exact p _ _ _ s (rh.write (o := .lst xs) (c := .lst vs) hk ⟨xs, L2.upd_same, rs s⟩).1 (ry s)
def rMt (B : Bs) (E : XK) (f : PV → List PV → M PV) : V → List V → Hp → L2.VK → Prop := fun x xs H Q => ∃ hd ρ h v vs, RH (B.wh hd) ρ h H ∧ RV (B.wh hd) ρ H x v ∧ RVs (B.wh hd) ρ H xs vs ∧ PostV (B.wh hd) E ρ H (f v vs h) Q
theorem m_append : L2.MtR X "list.append" (rMt (bsOf X T) E mAppend) := by
  intro pins s σ H x xs v us Q I rx rxs ⟨hd, ρ, h, pv, vs, rh, r1, rs, p⟩
  dsimp only [mAppend] at p
  split at p
  · rename_i k ws e1
    obtain ⟨a, ys, rfl, hk, e0, hl, rt⟩ := recv_at rh r1 e1
    split at p
    · cases rs with
      | cons r2 rs2 =>
        cases rs2
        split at p
        · rename_i hz
          exact L2.mt_append pins s σ H _ _ v us Q I rx rxs ⟨a, ys, _, rfl, rfl, hl, by rw [rt.length]; exact hz, finW p rh hk (fun s => (rt.step s).append (.cons (r2.step s) .nil)) fun _ => .non⟩
        · exact p.elim
    · exact p.elim
  · exact p.elim
theorem m_pop : L2.MtR X "list.pop" (rMt (bsOf X T) E mPop) := by
  intro pins s σ H x xs v us Q I rx rxs ⟨hd, ρ, h, pv, vs, rh, r1, rs, p⟩
  dsimp only [mPop] at p
  split at p
  · rename_i k ws e1
    obtain ⟨a, ys, rfl, hk, e0, hl, rt⟩ := recv_at rh r1 e1
    split at p
    · cases rs
      split at p
      · rename_i y ey
        obtain ⟨z, ez, rz⟩ := rt.get ey
        exact L2.mt_pop pins s σ H _ _ v us Q I rx rxs ⟨a, ys, z, rfl, rfl, hl, by rw [rt.length]; exact ez, finW p rh hk (fun s => (rt.step s).dropLast) fun s => rz.step s⟩
      · exact p.elim
    · cases rs with
      | cons r2 rs2 =>
        cases rs2
        obtain rfl := rv_int r2
        split at p
        · rename_i hz
          split at p
          · rename_i j ej
            split at p
            · rename_i y ey
              obtain ⟨z, ez, rz⟩ := rt.get ey
              exact L2.mt_popAt pins s σ H _ _ v us Q I rx rxs ⟨a, ys, _, j, z, rfl, rfl, hl, hz.1, hz.2, by rw [rt.length]; exact ej, ez, finW p rh hk (fun s => (rt.step s).eraseIdx j) fun s => rz.step s⟩
            · exact p.elim
          · exact p.elim
        · exact p.elim
    · exact p.elim
  · exact p.elim
theorem m_extend : L2.MtR X "list.extend" (rMt (bsOf X T) E mExtend) := by
  intro pins s σ H x xs v us Q I rx rxs ⟨hd, ρ, h, pv, vs, rh, r1, rs, p⟩
  dsimp only [mExtend] at p
  split at p
  · rename_i k ws e1
    obtain ⟨a, ys, rfl, hk, e0, hl, rt⟩ := recv_at rh r1 e1
    split at p
    · cases rs with
      | cons r2 rs2 =>
        cases rs2
        split at p
        · rename_i e2
          obtain ⟨b, zs, rfl, hb, ru⟩ := lst_at rh r2 e2
          split at p
          · rename_i hz
            exact L2.mt_extend pins s σ H _ _ v us Q I rx rxs ⟨a, b, ys, zs, rfl, rfl, hl, hb, by rw [rt.length, ru.length]; exact hz, finW p rh hk (fun s => (rt.step s).append (ru.step s)) fun _ => .non⟩
          · exact p.elim
        · exact p.elim
    · exact p.elim
  · exact p.elim
/-- o[i] = v by values -/
theorem RKs.put {B : Bs} {ρ : List Addr} {H : Hp} {k : Key} {y : V} {v : PV} (r : RV B ρ H y v) {xs : List (Key × V)} {vs : List (Key × PV)} (rs : RKs B ρ H xs vs) : RKs B ρ H (L2.putK xs k y) (putOf vs k v) := by
  have rep : ∀ {xs : List (Key × V)} {vs : List (Key × PV)}, RKs B ρ H xs vs → RKs B ρ H (xs.map fun kv => if kv.1 = k then (kv.1, y) else kv) (vs.map fun kv => if kv.1 = k then (kv.1, v) else kv) := by
    intro xs
    induction xs with
    | nil =>
      intro vs q
      cases q
      exact .nil
    | cons x xs ih =>
      intro vs q
      cases q with
      | @cons c x _ w _ h t =>
        rw [List.map_cons, List.map_cons]
        by_cases e : c = k
        · rw [if_pos e, if_pos e]
          exact .cons r (ih t)
        · rw [if_neg e, if_neg e]
          exact .cons h (ih t)
  have app : ∀ {xs : List (Key × V)} {vs : List (Key × PV)}, RKs B ρ H xs vs → RKs B ρ H (xs ++ [(k, y)]) (vs ++ [(k, v)]) := by
    intro xs
    induction xs with
    | nil =>
      intro vs q
      cases q
      exact .cons r .nil
    | cons x xs ih =>
      intro vs q
      cases q with
      | cons h t => exact .cons h (ih t)
  unfold L2.putK putOf
  rw [L2.valV_any, (rs.val k).2]
  split
  · exact rep rs
  · exact app rs
theorem set_at (hu : X.A.units + 200 < cLine) {pins : List (Addr × Obj)} {s : Shared} {σ : L2.St} {H : Hp} {o i v : V} {ov iv u : Value} {Q : Hp → Prop} (I : L2.Inv X pins σ H s) (ro : L2.RelV o ov) (ri : L2.RelV i iv) (rv : L2.RelV v u)
    {ρ : List Addr} {h : Hv} {po pi pv : PV} (rh : RH (bW X T hd) ρ h H) (r1 : RV (bW X T hd) ρ H o po) (r2 : RV (bW X T hd) ρ H i pi) (r3 : RV (bW X T hd) ρ H v pv) (p : PostR (bW X T hd) (fun _ _ (_ : Unit) (_ : Unit) => True) E ρ H (setItem po pi pv h) fun _ H' => Q H') :
    wpAny (model X.prog X.w) X.A (PySem.setItem ov iv u) (fun _ s' => ∃ H', L2.Inv X pins σ H' s' ∧ Q H') X.xe s := by
  unfold setItem at p
  split at p
  · rename_i k
    cases r1 with
    | @ref _ a hk =>
      obtain ⟨c0, e0, rc⟩ := rh.tracked hk
      rw [e0] at p
      cases c0 with
      | lst ws =>
        obtain ⟨ys, hl, rt⟩ := rc
        dsimp only at p
        split at p
        · rename_i n
          obtain rfl := rv_int r2
          split at p
          · rename_i j ej
            refine L2.set_list pins s σ H _ _ _ ov iv u Q I ro ri rv ⟨a, ys, n, j, rfl, rfl, hl, by rw [rt.length]; exact ej, ?_⟩
            obtain ⟨w1, w2⟩ := rh.write (o := .lst (ys.set j v)) (c := .lst (ws.set j pv)) hk ⟨_, L2.upd_same, by
              have st : Step (bW X T hd) ρ H ρ (L2.upd H a (.lst (ys.set j v))) := Step.write hk hl ne_tbl_lst fun c q z => by unfold LamX.CodeO at z; cases z
              exact (rt.step st).set (r3.step st) j⟩
            exact p _ _ () w2 w1 trivial
          · exact p.elim
        · exact p.elim
      | dK ws =>
        obtain ⟨ys, hl, rt⟩ := rc
        dsimp only at p
        split at p
        · rename_i c ec
          obtain rfl := keyOf_rv r2 ec
          split at p
          · rename_i hz
            refine L2.set_dict (by omega) pins s σ H _ _ _ ov iv u Q I ro ri rv ⟨a, _, rfl, .inl ⟨ys, c, hl, rfl, by rw [rt.length]; exact hz, rfl⟩, ?_⟩
            obtain ⟨w1, w2⟩ := rh.write (o := .dK (L2.putK ys c v)) (c := .dK (putOf ws c pv)) hk ⟨_, L2.upd_same, by
              have st : Step (bW X T hd) ρ H ρ (L2.upd H a (.dK (L2.putK ys c v))) := Step.write hk hl ne_tbl_dK fun c q z => by unfold LamX.CodeO at z; cases z
              exact (rt.step st).put (r3.step st)⟩
            exact p _ _ () w2 w1 trivial
          · exact p.elim
        · exact p.elim
      | dT _ => exact rc.elim
      | ins _ _ => exact rc.elim
  · exact p.elim
end
end HS
end
-- text EvSlice
section
set_option Elab.async false
set_option linter.all false
set_option maxRecDepth 100000

/-! Slices. -/
namespace HS
open PySem PySem.Spec PyProof.Rows
section
variable {M : Model} {prog : Program} {w : World} {A : Around} {E : Value → Shared → Prop} {s : Shared}
theorem fm_congr {α β : Type} {f g : α → Option β} : ∀ (l : List α), (∀ a ∈ l, f a = g a) → l.filterMap f = l.filterMap g
  | [], _ => rfl
  | a :: l, h => by
    rw [List.filterMap_cons, List.filterMap_cons, h a List.mem_cons_self, fm_congr l fun b hb => h b (List.mem_cons_of_mem _ hb)]
theorem rev_pick (xs : Array Value) : ((List.range xs.size).filterMap fun (k : Nat) => xs[(((xs.size : Int) - 1) + (k : Int) * (-1)).toNat]?) = xs.toList.reverse := by
  have e : ((List.range xs.size).filterMap fun (k : Nat) => xs[(((xs.size : Int) - 1) + (k : Int) * (-1)).toNat]?) = (List.range xs.size).filterMap fun k => xs.toList.reverse[k]? := by
    refine fm_congr _ fun k hk => ?_
    have hk' := List.mem_range.mp hk
    have e1 : (((xs.size : Int) - 1) + (k : Int) * (-1)).toNat = xs.size - 1 - k := by omega
    rw [e1, List.getElem?_reverse (by rw [Array.length_toList]; exact hk'), Array.length_toList, Array.getElem?_toList]
  have e2 : xs.size = xs.toList.reverse.length := by rw [List.length_reverse, Array.length_toList]
  rw [e, e2]
  generalize xs.toList.reverse = l
  induction l with
  | nil => rfl
  | cons a l ih =>
    rw [List.length_cons, List.range_succ_eq_map, List.filterMap_cons]
    have h1 : (a :: l)[0]? = some a := rfl
    simp only [h1, List.filterMap_map]
    congr 1
theorem applied_rev {sl : Addr} {vs : Value} {n : Nat} {Q : Int × Int × Nat → Shared → Prop} (hs : s.heap.IsSliceOf sl .none .none vs) (ps : IsPart vs (some (-1)))
    (h : Q ((n : Int) - 1, -1, n) s) : wpAny (model prog w) A (Builtin.Slice.sliceApplied (.ref sl) (pure (n : Int))) Q E s := by
  obtain ⟨os, hos, hcs, hds⟩ := id hs
  unfold Builtin.Slice.sliceApplied Builtin.Slice.sliceFields
  refine wpAny_bind (wpAny_bind (wpAny_field hos hds (x := .none) rfl (wpAny_bind (wpAny_field hos hds (x := .none) rfl (wpAny_bind (wpAny_field hos hds (x := vs) rfl (wpAny_pure ?_)))))))
  cases ps with
  | int _ t =>
    refine wpAny_bind (slicePart_int ?_)
    show wpAny _ _ (if ((-1 : Int) == 0) = true then _ else _) _ _ s
    rw [if_neg (by decide)]
    refine wpAny_bind (slicePart_none (wpAny_bind (slicePart_none (wpAny_bind (wpAny_pure ?_)))))
    have ea : Builtin.Slice.sliceAdjust none none (-1) (n : Int) = ((n : Int) - 1, -1) := by
      unfold Builtin.Slice.sliceAdjust
      simp
    show wpAny _ _ (match Builtin.Slice.sliceAdjust none none (-1) (n : Int) with | (lo, hi) => pure (lo, (-1 : Int), Builtin.Slice.slicePlaces lo hi (-1))) _ _ s
    rw [ea]
    have ep : Builtin.Slice.slicePlaces ((n : Int) - 1) (-1) (-1) = n := by
      unfold Builtin.Slice.slicePlaces
      have h1 : ¬ ((-1 : Int) > 0) := by omega
      rw [if_neg h1]
      by_cases h2 : (n : Int) - 1 > -1
      · rw [if_pos h2]
        have : -(-1 : Int) = 1 := rfl
        rw [this, Int.ediv_one]
        omega
      · rw [if_neg h2]
        omega
    show wpAny _ _ (pure ((n : Int) - 1, (-1 : Int), Builtin.Slice.slicePlaces ((n : Int) - 1) (-1) (-1))) _ _ s
    rw [ep]
    exact wpAny_pure h
theorem getItem_tuple_rev {t sl : Addr} {items : Array Value} {vs : Value} {Q : Value → Shared → Prop} (ht : IsTup s.heap t items) (hs : s.heap.IsSliceOf sl .none .none vs) (ps : IsPart vs (some (-1)))
    (h : Q (.ref s.heap.objs.size) { s with heap := s.heap.push { cls := .type "tuple", data := .seq items.toList.reverse.toArray } })
    (hsz : items.size ≤ sizeLine) : wpAny (model prog w) A (getItem (.ref t) (.ref sl)) Q E s := by
  have hok : sizeOk (.seq items.toList.reverse.toArray) := by
    show items.toList.reverse.toArray.size ≤ sizeLine
    rw [List.size_toArray, List.length_reverse, Array.length_toList]
    exact hsz
  obtain ⟨os, hos, hcs, hds⟩ := id hs
  have hTs : s.TypeIs (.ref sl) "slice" := ⟨os, hos, hcs⟩
  unfold getItem
  try with_reducible refine wpAny_holding ?_
  first | refine wpAny_bind (wpAny_pure ?_) | skip
  refine wpAny_bind (wpAny_sequenceKey ht.typeIs (by decide) ?_)
  refine wpAny_bind (wpAny_callSpecial?_slot (name := Str.ofString "__getitem__") ht.typeIs slot_tuple_getitem (wpAny_call_entry slot_tuple_getitem ht.typeIs entry_tuple_getitem ?_ (args_tuple_getitem _ _)))
  show wpAny _ _ (Builtin.Tuple.tupleItemsOf (.ref t) >>= _) _ _ s
  refine wpAny_bind (tupleItemsOf_ ht (wpAny_bind (wpAny_typeOf hTs ?_)))
  rw [if_pos (by decide)]
  refine wpAny_bind (applied_rev hs ps ?_)
  have hno : ¬ (((items.size : Int) - 1 == 0 && (-1 : Int) == 1 && items.size == items.size) = true) := by
    intro q
    rw [Bool.and_eq_true, Bool.and_eq_true] at q
    exact absurd q.1.2 (by decide)
  show wpAny _ _ (if ((items.size : Int) - 1 == 0 && (-1 : Int) == 1 && items.size == items.size) = true then _ else _) _ _ s
  rw [if_neg hno, rev_pick]
  first
    | exact wpAny_bind (m := Builtin.Tuple.tupleExact _) (wpAny_newObj_type (wpAny_pure ⟨_, rfl, wpAny_pure h⟩) hok)
    | exact wpAny_bind (m := Builtin.Tuple.tupleExact _) (wpAny_newObj_type (wpAny_bind (wpAny_pure (wpAny_pure ⟨_, rfl, wpAny_pure h⟩))) hok)
    | exact wpAny_bind (wpAny_bind (m := Builtin.Tuple.tupleExact _) (wpAny_newObj_type (wpAny_pure (wpAny_pure ⟨_, rfl, wpAny_pure h⟩)) hok))
    | exact wpAny_bind (wpAny_bind (m := Builtin.Tuple.tupleExact _) (wpAny_newObj_type (wpAny_pure ⟨_, rfl, wpAny_pure h⟩) hok))
end
section
variable {X : L2.Cx} {T : Tx} {hd : List Addr} {E : XK}
abbrev RP : List Addr → Hp → Option Int → Option Int → Prop := fun _ _ a b => a = b
def tP (B : Bs) (E : XK) (f : Sg → M (Option Int)) : L2.TO := fun σ H Q => ∃ hd ρ sg h, RS (B.wh hd) ρ H sg σ ∧ RH (B.wh hd) ρ h H ∧ PostR (B.wh hd) RP E ρ H (f sg h) Q
theorem po_no : L2.PO X none (tP (bsOf X T) E eNoPart) := by
  refine ⟨fun pins s σ H Q I h => ?_⟩
  obtain ⟨hd, ρ, sg, h, rs, rh, p⟩ := h
  exact L2.po_none.run pins s σ H Q I (p.ret rh rfl)
theorem po_part {e : Expr} {f : ES} (he : L2.PE X e (tE (bsOf X T) E f)) : L2.PO X (some e) (tP (bsOf X T) E (ePart f)) := by
  refine ⟨fun pins s σ H Q I h => ?_⟩
  obtain ⟨hd, ρ, sg, h, rs, rh, p⟩ := h
  refine (L2.po_some he).run pins s σ H Q I ⟨hd, ρ, sg, h, rs, rh, p.bnd.mono fun x H1 ⟨ρ1, h1, v, s1, r1, rv, p1⟩ => ?_⟩
  dsimp only at p1
  split at p1
  · obtain rfl := rv_int rv
    exact ⟨_, rfl, p1.ret r1 rfl⟩
  · exact stk_no p1
def rSlc (B : Bs) (E : XK) (m : Bool) : V → Option Int → Option Int → Hp → L2.VK → Prop := fun x lo hi H Q => ∃ hd ρ h v, RH (B.wh hd) ρ h H ∧ RV (B.wh hd) ρ H x v ∧ PostV (B.wh hd) E ρ H (sSlice m v lo hi h) Q
theorem RVs.cut {B : Bs} {ρ : List Addr} {H : Hp} {xs : List V} {vs : List PV} (r : RVs B ρ H xs vs) (lo hi : Option Int) : RVs B ρ H (L2.cutV xs lo hi) (cutP vs lo hi) := by
  unfold L2.cutV cutP
  rw [r.length]
  exact (r.drop _).take _
theorem sl_sSlice {m : Bool} : L2.SlR X (rSlc (bsOf X T) E m) := by
  intro pins s σ H x v vl vu lo hi sl Q I rx hs pl pu ⟨hd, ρ, h, pv, rh, r1, p⟩
  dsimp only [sSlice] at p
  split at p
  · rename_i ws
    obtain ⟨a, ys, rfl, ht, rs⟩ := rv_tup r1
    refine L2.sl_tupA pins s σ H _ v vl vu lo hi sl Q I rx hs pl pu ⟨a, ys, rfl, ht, fun hw => ?_, fun _ q hq => finT p rh (rs.cut lo hi) hq⟩
    have e : cutP ws lo hi = ws := by
      unfold cutP
      rw [← rs.length, hw.1, hw.2, List.drop_zero, Nat.sub_zero, rs.length, List.take_length]
    rw [e] at p
    exact fin0 p rh r1
  · cases r1 with
    | scr hl => exact L2.sl_list pins s σ H _ v vl vu lo hi sl Q I rx hs pl pu ⟨_, _, rfl, hl.sq, fun q hq => finL p rh ((RVs.of_ints _).cut lo hi) hq⟩
  · split at p
    · rename_i e1
      obtain ⟨a, ys, rfl, hl, rs⟩ := lst_at rh r1 e1
      exact L2.sl_list pins s σ H _ v vl vu lo hi sl Q I rx hs pl pu ⟨a, ys, rfl, .inl (.inl hl), fun q hq => finL p rh (rs.cut lo hi) hq⟩
    · exact p.elim
/-- e[::-1] -/
theorem pe_rev {m : Bool} {e : Expr} {f : ES} {k : Nat} {p1 p2 p3 pos : Pos} (he : L2.PE X e (tE (bsOf X T) E f)) :
    L2.PE X (.Subscript e (.Slice none none (some (.UnaryOp .USub (.Constant (.int 1) k p1) p2)) p3) pos) (tE (bsOf X T) E fun σ => (f σ).bnd (sRev m)) := by
  refine ⟨fun pins s σ H Q I hQ => ?_⟩
  have h' := tE.un (fun _ => rfl) hQ
  refine Subscript_ (L2.thn (he.run pins s σ H _ I h') fun v s1 ⟨x, H1, I1, rx, hd, ρ, h, pv, rh, r1, p⟩ => ?_)
  have hst : L2.PO X (some (.UnaryOp .USub (.Constant (.int 1) k p1) p2)) (L2.tPart (L2.tUn (L2.rU fun i => .int (-i)) (L2.tC (.int 1)))) := L2.po_some (L2.pe_un L2.un_neg L2.pe_int)
  refine wpAny_Slice (L2.thn (L2.po_none.run pins s1 σ H1 (fun o H2 => o = none ∧ H2 = H1) I1 ⟨rfl, rfl⟩) fun vl s2 ⟨l, H2, I2, pl, el, e2⟩ => ?_)
  subst el e2
  refine L2.thn (L2.po_none.run pins s2 σ H2 (fun o H3 => o = none ∧ H3 = H2) I2 ⟨rfl, rfl⟩) fun vu s3 ⟨u, H3, I3, pu, eu, e3⟩ => ?_
  subst eu e3
  refine L2.thn (hst.run pins s3 σ H3 (fun o H4 => o = some (-1) ∧ H4 = H3) I3 ⟨1, rfl, -1, rfl, rfl, rfl⟩) fun vs s4 ⟨o, H4, I4, ps, eo, e4⟩ => ?_
  subst eo e4
  have I5 : L2.Inv X pins σ H4 { s4 with heap := s4.heap.push { cls := .type "slice", data := .fields #[vl, vu, vs] } } := I4.kept (t' := s4.toks) fun b ob q => Heap.get?_push_of_some _ q
  have hb : ∀ (ws : List PV) (ys : List V) (a : Addr), L2.SqL X.K H4 a ys → RVs (bW X T hd) ρ H4 ys ws → PostV (bW X T hd) E ρ H4 (mkL m ws.reverse h) Q → x = .ref a → wpAny (model X.prog X.w) X.A (subscriptTail e (.Slice none none (some (.UnaryOp .USub (.Constant (.int 1) k p1) p2)) p3) v (.ref s4.heap.objs.size)) (L2.EP X pins σ Q) X.xe
      { s4 with heap := s4.heap.push { cls := .type "slice", data := .fields #[vl, vu, vs] } } := by
    intro ws ys a hl rs p ex
    subst ex
    cases rx
    obtain ⟨its, r, ht, hz⟩ := I5.list hl
    have hlen := r.length
    refine tail_any (ops := [.ref a, .ref s4.heap.objs.size]) ht.isList.typeIs (PySem.slot_list_getitem.lookup) ?_ (by with_unfolding_all rfl)
    refine wpAny_getItem_list_slice ht.isList (Heap.IsSliceOf.new _ vl vu vs) pl pu ps (by decide) ?_ (by rw [List.size_toArray]; omega)
    rw [PySem.W.krv_pick]
    refine ⟨.ref _, _, I5.laid (t' := s4.toks) (o := .lst ys.reverse) (fun b ob q => Heap.get?_push_of_some _ q) (Nat.le_refl _) ?_, rfl, finL p rh rs.reverse (I5.hok.fresh (Nat.le_refl _))⟩
    exact ⟨by rw [List.length_reverse]; exact hz, _, 0, r.reverse, Heap.get?_push_size _ rfl⟩
  dsimp only [sRev] at p
  split at p
  · obtain ⟨a, ys, rfl, hl, rs⟩ := rv_tup r1
    cases rx
    cases pl
    cases pu
    obtain ⟨its, r, ht, hz⟩ := I5.tuple hl
    refine tail_any (ops := [.ref a, .ref s4.heap.objs.size]) ht.typeIs slot_tuple_getitem.lookup ?_ (by with_unfolding_all rfl)
    refine getItem_tuple_rev ht (Heap.IsSliceOf.new _ _ _ vs) ps ?_ (by rw [List.size_toArray, ← r.length]; exact hz)
    refine ⟨.ref _, _, I5.laid (t' := s4.toks) (o := .tup ys.reverse) (fun b ob q => Heap.get?_push_of_some _ q) (Nat.le_refl _) ?_, rfl, finT p rh rs.reverse (I5.hok.fresh (Nat.le_refl _))⟩
    exact ⟨by rw [List.length_reverse]; exact hz, _, r.reverse, IsTup.new _ _⟩
  · split at p
    · rename_i e1
      obtain ⟨a, ys, rfl, hl, rs⟩ := lst_at rh r1 e1
      exact hb _ ys a (.inl (.inl hl)) rs p rfl
    · exact p.elim
end
end HS
end
-- text EvSet
section
set_option Elab.async false
set_option linter.all false
set_option maxRecDepth 100000

/-! set(xs) of a list of ints. -/
namespace HS
open PySem PySem.Spec PyProof.Rows L2
section
variable {P : Program} {w : World} {A : Around} {E : Value → Shared → Prop} {s : Shared}
abbrev nSet (w : World) : Obj := { cls := .type "set", dict := none, data := .set #[] 0 (.fresh 0 0 (!w.params.followText "set-order")) }
set_option maxHeartbeats 4000000 in
theorem set_of_list {l : Addr} {its : Array Value} (ns : List Int) {Q : Value → Shared → Prop} (hh : A.handled = none) (hl : s.heap.IsList l its) (hit : IntsAre its.toList ns) (hb : ns.length + 1 < scanBound)
    (hq : ∀ (g : Heap) (tk c : Nat), SetR w g s.heap.objs.size (fun j => decide (j ∈ ns)) c → c ≤ ns.length → (∀ b o, s.heap.get? b = some o → g.get? b = some o) → Q (.ref s.heap.objs.size) { s with heap := g, toks := tk }) :
    wpAny (model P w) A (call (.type "set") [.ref l]) Q E s := by
  have hn : its.size = ns.length := by
    have q := IntsAre.length hit
    simpa using q
  obtain ⟨c0, tl, hmro⟩ := F.called_set.mro
  have k1 := F.called_set.made
  have k2 := F.called_set.sub
  have k3 := F.called_set.notType
  have k4 := F.called_set.canCreate
  have k5 := F.typeCall_set_1 (.ref l)
  refine wpAny_call (codeAny_of_tree (show wpAny _ _ (callAny (.type "set") _) _ _ _ from wpAny_pure ⟨Code.quiet_builtin _ (by decide +kernel), codeAny_builtin F.entry_type_call ?_⟩))
  rw [Around.under_plain (weight_type_call_type "set" [.ref l] []) rfl]
  repeat (any_goals (first | assumption | wp_step))
  refine codeAny_mono (code_set_led1 (.ref l) (E := E) (Q₁ := fun ob z => ob = .ref s.heap.objs.size ∧ z = { s with heap := s.heap.push (nSet w) }) ⟨rfl, rfl⟩) fun r z hr => ?_
  cases r with
  | error e => exact hr
  | ok fl =>
    cases fl with
    | ret ob =>
      obtain ⟨rfl, rfl⟩ := hr
      have hS : (s.heap.push (nSet w)).get? s.heap.objs.size = some (nSet w) := Heap.get?_push_size _ rfl
      have hT : Shared.TypeIs { s with heap := s.heap.push (nSet w) } (.ref s.heap.objs.size) "set" := ⟨_, hS, rfl⟩
      have hli := F.called_set.init.lookup
      have hbi := F.called_set.init.bind (.ref s.heap.objs.size)
      repeat (any_goals (first | assumption | wp_step))
      refine codeAny_mono (codeAny_call_builtin (R := wants (fun r z => r = .none ∧ ∃ g tk c, z = { s with heap := g, toks := tk } ∧ SetR w g s.heap.objs.size (fun j => decide (j ∈ ns)) c ∧ c ≤ ns.length ∧
          (∀ b o, s.heap.get? b = some o → g.get? b = some o)) E) F.called_set.init.plain F.entry_set_init (check_set_init_1 hT ?_)) fun r2 z2 hr2 => ?_
      · obtain ⟨ol, hol, hcl, nl, hdl⟩ := hl
        obtain ⟨ocls, odict, odata, oslots⟩ := ol
        simp only at hcl hdl
        subst hcl hdl
        have hol' : (s.heap.push (nSet w)).get? l = some { cls := .type "list", dict := odict, data := .seq its nl, slots := oslots } := Heap.get?_push_of_some _ hol
        have j1 := F.sub_list_set
        have j2 := F.sub_list_frozenset
        have j3 : (Value.type "list" == Value.type "dict") = false := by decide
        have hl1 : (s.heap.push (nSet w)).IsList l its := ⟨_, hol', rfl, nl, rfl⟩
        unfold Builtin.«set.__init__» noKeywords Builtin.Frozenset.updateFrom
        generalize hPI : pyIter = PI
        wp_walk
        subst hPI
        refine wpAny_pyIter_list hl1 (wpAny_bind (wpAny_runValue ?_))
        have hlS : l < s.heap.objs.size := Heap.lt_size hol
        have hh3 : A.in1.in1.in1.handled = none := by simp [hh]
        have hp : (s.heap.push (nSet w)).objs.size = s.heap.objs.size + 1 := Heap.size_push ..
        have hne : l ≠ (s.heap.push (nSet w)).objs.size := fun z => by
          rw [hp] at z
          exact absurd z (Nat.ne_of_lt (Nat.lt_succ_of_lt hlS))
        have hSf : s.heap.objs.size ∉ [(s.heap.push (nSet w)).objs.size, l] := by
          intro z
          rcases List.mem_cons.mp z with z | z
          · rw [hp] at z
            exact absurd z (Nat.ne_of_lt (Nat.lt_succ_self _))
          · exact absurd (List.mem_singleton.mp z) (Nat.ne_of_gt hlS)
        have hval : ∀ (i : Nat) (v : Value), its[i]? = some v → ∃ k t, ns[i]? = some k ∧ v = .int k t := fun i v hv => by
          have hi : i < ns.length := by rw [← hn]; exact (Array.getElem?_eq_some_iff.mp hv).1
          obtain ⟨t, e⟩ := PyProof.Rows.IntsAre.int_at hit i v (by rw [Array.getElem?_toList]; exact hv)
          exact ⟨ns[i], t, List.getElem?_eq_getElem hi, by rw [e, List.getD_eq_getElem?_getD, List.getElem?_eq_getElem hi]; rfl⟩
        refine set_update_ints ((Walks.list hh3 _ l hne its).toS) s.heap.objs.size hSf ns hn hb hval (its.size - 0) 0 _ (by omega) (Nat.zero_le _) ⟨⟨_, Heap.get?_push_size _ rfl, rfl, rfl⟩, (hl1.push _)⟩ ?hS0 ?hR
        case hS0 => exact ⟨0, Nat.le_refl 0, setR_new_at (Heap.get?_push_of_some _ hS)⟩
        case hR =>
          intro z c' hm hc' hS'
          obtain ⟨g, g2, d', tk', os'⟩ := z
          obtain rfl : g2 = s.gens := hm.gens
          obtain rfl : d' = s.drawn := hm.drawn
          obtain rfl : os' = s.os := hm.os
          show wpAny _ _ _ _ _ _
          refine wpAny_pure ?_
          show wpAny _ _ (ret Value.none) _ _ _
          rw [hn] at hc'
          refine wpAny_pure ⟨rfl, g, tk', c', rfl, hS', hc', fun b o e => ?_⟩
          have hb0 : b < s.heap.objs.size := Heap.lt_size e
          refine hm.heap b o ?_ (Heap.get?_push_of_some _ (Heap.get?_push_of_some _ e))
          intro z
          rcases List.mem_cons.mp z with z | z
          · exact absurd z (Nat.ne_of_lt hb0)
          · have z := List.mem_singleton.mp z
            rw [hp] at z
            exact absurd z (Nat.ne_of_lt (Nat.lt_succ_of_lt hb0))
      · cases r2 with
        | error e => exact hr2
        | ok fl2 =>
          cases fl2 with
          | ret r =>
            obtain ⟨rfl, g, tk, c, rfl, q1, q2, q3⟩ := hr2
            repeat (any_goals (first | assumption | wp_step))
            exact hq _ _ _ q1 q2 q3
          | next => exact hr2
          | brk => exact hr2
          | cont => exact hr2
    | next => exact hr
    | brk => exact hr
    | cont => exact hr
end
end HS
end
-- text EvSort
section
set_option Elab.async false
set_option linter.all false
set_option maxRecDepth 100000

/-! sorted, set and repr keep what the evaluator says; tuple(range(..)), list(range(..)). -/
namespace HS
open PySem PySem.Spec PyProof.Rows
mutual
theorem plain_noDict : ∀ d : PyData, d.plain = true → d.hasDict = false
  | .none, _ => rfl
  | .bool _, _ => rfl
  | .int _, _ => rfl
  | .str _, _ => rfl
  | .list xs, h => by
    unfold PyData.plain at h
    unfold PyData.hasDict
    exact plain_noDicts xs h
  | .tuple xs, h => by
    unfold PyData.plain at h
    unfold PyData.hasDict
    exact plain_noDicts xs h
  | .dict _, h => by
    unfold PyData.plain at h
    cases h
theorem plain_noDicts : ∀ ds : List PyData, PyData.plainAll ds = true → PyData.hasDictAll ds = false
  | [], _ => rfl
  | d :: ds, h => by
    unfold PyData.plainAll at h
    unfold PyData.hasDictAll
    have h' := Bool.and_eq_true_iff.mp h
    rw [plain_noDict d h'.1, plain_noDicts ds h'.2]
    rfl
end
theorem pairs_nil {P : Program} {w : World} {es : List DictEntry} (h : Pairs (L2.mixKind P w) es []) : es = [] := by cases h; rfl
theorem insI_mem (x : Int) : ∀ (ys : List Int) (k : Int), k ∈ insI x ys ↔ k = x ∨ k ∈ ys
  | [], k => by simp [insI]
  | y :: ys, k => by
    unfold insI
    split
    · simp
    · split
      · rename_i e
        subst e
        simp
      · rw [List.mem_cons, insI_mem x ys k, List.mem_cons]
        constructor
        · rintro (h | h | h)
          · exact .inr (.inl h)
          · exact .inl h
          · exact .inr (.inr h)
        · rintro (h | h | h)
          · exact .inr (.inl h)
          · exact .inl h
          · exact .inr (.inr h)
theorem insI_asc (x : Int) : ∀ (ys : List Int), ys.Pairwise (· < ·) → (insI x ys).Pairwise (· < ·)
  | [], _ => by simp [insI]
  | y :: ys, h => by
    have h' := List.pairwise_cons.mp h
    unfold insI
    split
    · rename_i e
      refine List.pairwise_cons.mpr ⟨fun z hz => ?_, h⟩
      rcases List.mem_cons.mp hz with rfl | hz
      · exact e
      · exact Int.lt_trans e (h'.1 z hz)
    · split
      · exact h
      · rename_i e1 e2
        refine List.pairwise_cons.mpr ⟨fun z hz => ?_, insI_asc x ys h'.2⟩
        rcases (insI_mem x ys z).mp hz with rfl | hz
        · omega
        · exact h'.1 z hz
theorem srtI_mem : ∀ (xs : List Int) (k : Int), k ∈ srtI xs ↔ k ∈ xs
  | [], k => by simp [srtI]
  | x :: xs, k => by
    have e : srtI (x :: xs) = insI x (srtI xs) := rfl
    rw [e, insI_mem, srtI_mem xs, List.mem_cons]
theorem srtI_asc : ∀ xs : List Int, (srtI xs).Pairwise (· < ·)
  | [] => List.Pairwise.nil
  | x :: xs => insI_asc x _ (srtI_asc xs)
theorem asc_unique : ∀ {xs ys : List Int}, xs.Pairwise (· < ·) → ys.Pairwise (· < ·) → (∀ k, k ∈ xs ↔ k ∈ ys) → xs = ys
  | [], [], _, _, _ => rfl
  | [], y :: ys, _, _, h => absurd ((h y).mpr (List.mem_cons_self ..)) (by simp)
  | x :: xs, [], _, _, h => absurd ((h x).mp (List.mem_cons_self ..)) (by simp)
  | x :: xs, y :: ys, p, q, h => by
    have p' := List.pairwise_cons.mp p
    have q' := List.pairwise_cons.mp q
    have e : x = y := by
      rcases List.mem_cons.mp ((h x).mp (List.mem_cons_self ..)) with z | z
      · exact z
      · rcases List.mem_cons.mp ((h y).mpr (List.mem_cons_self ..)) with u | u
        · exact u.symm
        · have h1 := q'.1 x z
          have h2 := p'.1 y u
          omega
    subst e
    refine congrArg _ (asc_unique p'.2 q'.2 fun k => ?_)
    constructor
    · intro hk
      rcases List.mem_cons.mp ((h k).mp (List.mem_cons_of_mem _ hk)) with z | z
      · have := p'.1 k hk
        omega
      · exact z
    · intro hk
      rcases List.mem_cons.mp ((h k).mpr (List.mem_cons_of_mem _ hk)) with z | z
      · have := q'.1 k hk
        omega
      · exact z
section
variable {X : L2.Cx} {T : Tx} {hd : List Addr} {E : XK}
theorem c_set (hc : X.calm = true) : L2.CallR X (.type "set") (rC1 (bsOf X T) E bSet) := by
  intro pins s σ H xs us Q I r ⟨x, ex, hd, ρ, h, pv, rh, r1, p⟩
  subst ex
  dsimp only [bSet] at p
  split at p
  · rename_i ns e
    obtain ⟨vs, e1, e2⟩ := Option.bind_eq_some_iff.mp e
    obtain ⟨a, ys, rfl, hl, rs⟩ := lst_at rh r1 e1
    obtain rfl := rs.ints e2
    split at p
    · rename_i hz
      obtain ⟨u, rfl, ru⟩ := vals1 r
      cases ru
      obtain ⟨its, rv, ht, hzz⟩ := I.list (.inl (.inl hl))
      have hn := rv.length
      have hit : IntsAre its.toArray.toList ns := L2.Vals.ints rv
      refine set_of_list ns (I.ok.hd hc) (show s.heap.IsList a its.toArray from ht.isList) hit (by rw [show scanBound = 4096 from rfl]; omega) fun g tk c hS hcn hk => ?_
      have hp := I.hok.fresh (Nat.le_refl s.heap.objs.size)
      refine ⟨.ref _, _, I.laid (t' := tk) (o := L2.SetO X.w s.heap.objs.size (fun j => decide (j ∈ ns)) c) hk (Nat.le_refl _) (L2.setO_new hS), rfl, ?_⟩
      exact p _ _ _ (Step.laid hp) (rh.laid hp) (.set L2.upd_same (rh.fresh hp) (fun _ => rfl) hcn)
    · exact p.elim
  · exact p.elim
theorem toDs_enc : ∀ {vs : List PV} {ds : List PyData}, toDs vs = some ds → ds = vs.map encP ∧ ∀ v ∈ vs, toD v = some (encP v)
  | [], _, e => by
    unfold toDs at e
    cases e
    exact ⟨rfl, fun _ z => absurd z (by simp)⟩
  | v :: vs, ds, e => by
    unfold toDs at e
    cases q : toD v with
    | none => rw [q] at e; cases e
    | some d =>
      cases q2 : toDs vs with
      | none => rw [q, q2] at e; cases e
      | some ds' =>
        rw [q, q2] at e
        cases e
        obtain ⟨h1, h2⟩ := toDs_enc q2
        have e0 : encP v = d := by unfold encP; rw [q]; rfl
        refine ⟨by rw [List.map_cons, e0, h1], fun w hw => ?_⟩
        rcases List.mem_cons.mp hw with rfl | hw
        · rw [q, e0]
        · exact h2 w hw
/-- values that stand for the items of a list of data -/
theorem each_of {pins : List (Addr × Obj)} {s : Shared} {σ : L2.St} {H : Hp} {ρ : List Addr} (I : L2.Inv X pins σ H s) : ∀ {xs : List V} {vs : List PV} {us : List Value}, RVs (bW X T hd) ρ H xs vs → L2.Vals xs us → (∀ v ∈ vs, toD v = some (encP v)) →
    PySem.W.EachIs (fun u v => ∃ x, L2.RelV x u ∧ RV (bW X T hd) ρ H x v) us vs ∧ PySem.W.EachIs (fun u v => ∃ as, Reads s.heap u (encP v) as) us vs
  | _, _, _, .nil, r, _ => by
    cases r
    exact ⟨.nil, .nil⟩
  | _, _, _, .cons h t, r, hd => by
    cases r with
    | cons r rr =>
      obtain ⟨h1, h2⟩ := each_of I t rr fun v hv => hd v (List.mem_cons_of_mem _ hv)
      exact ⟨.cons ⟨_, r, h⟩ h1, .cons ((h.dp (hd _ (List.mem_cons_self ..))).reads I _ _ _ r) h2⟩
theorem of_each {H : Hp} {ρ : List Addr} : ∀ {us : List Value} {vs : List PV}, PySem.W.EachIs (fun u v => ∃ x, L2.RelV x u ∧ RV (bW X T hd) ρ H x v) us vs → ∃ xs, L2.Vals xs us ∧ RVs (bW X T hd) ρ H xs vs
  | _, _, .nil => ⟨[], .nil, .nil⟩
  | _, _, .cons ⟨x, h1, h2⟩ t => by
    obtain ⟨xs, h3, h4⟩ := of_each t
    exact ⟨x :: xs, .cons h1 h3, .cons h2 h4⟩
theorem c_sorted {m : Bool} (hc : X.calm = true) (hu : X.A.units + 200 < cLine) : L2.CallR X (.builtin "sorted") (rC1 (bsOf X T) E (bSorted m)) := by
  intro pins s σ H xs us Q I r ⟨x, ex, hd, ρ, h, pv, rh, r1, p⟩
  subst ex
  dsimp only [bSorted] at p
  split at p
  · rename_i ns
    split at p
    · rename_i hz
      cases r1 with
      | @set a S n _ hl hn hS hc2 =>
        refine L2.cr_sortedSet hc pins s σ H _ us Q I r ⟨a, S, n, rfl, hl, by omega, fun ms q hm1 hm2 hm3 hq => ?_⟩
        have e : ms = srtI ns := asc_unique hm1 (srtI_asc ns) fun k => by rw [hm2 k, hS k, srtI_mem]; simp
        subst e
        exact finL p rh (RVs.of_ints _) hq
    · exact p.elim
  · split at p
    · exact p.elim
    · rename_i vs e1
      obtain ⟨a, ys, rfl, hl, rs⟩ := lst_at rh r1 e1
      split at p
      · rename_i ws e2
        unfold srtP at e2
        split at e2
        · rename_i hh
          cases e2
          obtain ⟨q1, q2, q3, q4⟩ := hh
          obtain ⟨ds, e3⟩ := Option.isSome_iff_exists.mp q1
          obtain ⟨e4, e5⟩ := toDs_enc e3
          obtain ⟨u, rfl, ru⟩ := vals1 r
          cases ru
          obtain ⟨its, rv, ht, hzz⟩ := I.list (.inl (.inl hl))
          obtain ⟨g1, g2⟩ := each_of (T := T) I rs rv e5
          have hlen := rs.length
          refine PySem.W.sorted_data (enc := encP) ht.isList g1 g2 q2 q3 (by omega) (fun b hb => by have := q4 b hb; omega) fun out ho1 ho2 => ?_
          obtain ⟨zs, z1, z2⟩ := of_each ho2
          have hp := I.hok.fresh (Nat.le_succ s.heap.objs.size)
          obtain ⟨c, ec⟩ := sortedAll_at s.heap its (List.toArray out)
          have hz1 := z1.length
          refine ⟨.ref _, _, I.laid (t' := s.toks) (o := .lst zs) (fun b u e => sortedAll_old e) (Nat.le_succ _) ?_, rfl, finL p rh z2 hp⟩
          exact ⟨by rw [hz1, ho1]; omega, out, c, z1, ec⟩
        · cases e2
      · exact p.elim
theorem c_repr (hg : X.A.guards = some []) (hu : X.A.units + 200 < cLine) : L2.CallR X (.builtin "repr") (rC1 (bsOf X T) E bRepr) := by
  intro pins s σ H xs us Q I r ⟨x, ex, hd, ρ, h, pv, rh, r1, p⟩
  subst ex
  obtain ⟨u, rfl, ru⟩ := vals1 r
  dsimp only [bRepr] at p
  split at p
  · rename_i d e
    split at p
    · rename_i hh
      obtain ⟨h1, h2, h3⟩ := hh
      have fin : ∀ (h' : Heap) (tk : Nat) (t : Tok), (∀ b o, s.heap.get? b = some o → h'.get? b = some o) → L2.EP X pins σ Q (.str d.shown t) { s with heap := h', toks := tk } := fun h' tk t hk => ⟨.str _, H, I.kept hk, ⟨_, rfl⟩, fin0 p rh (.str _)⟩
      have main : ∀ as : List Addr, Reads s.heap u d as → (d.hasDict = true → sysModules ∉ as) → wpAny (model X.prog X.w) X.A (call (.builtin "repr") [u]) (L2.EP X pins σ Q) X.xe s := fun as hr hs => by
        cases u with
        | ref a => exact PySem.repr_of_reads' hr h1 hs hg (by omega) (fun _ _ z => z) (fun h' t tk hk => fin h' tk t hk) h2
        | none =>
          cases hr
          exact PySem.P.repr_of_none (fin _ _ _ fun _ _ z => z)
        | bool b =>
          cases hr
          simp only [PyData.shown] at fin
          exact PySem.P.repr_of_bool (fin _ _ _ fun _ _ z => z)
        | int b =>
          cases hr
          simp only [PyData.shown] at fin
          exact PySem.P.repr_of_int (by simpa [PyData.showable] using h1) (fin _ _ _ fun _ _ z => z)
        | str b =>
          cases hr
          simp only [PyData.shown] at fin h2
          exact PySem.P.repr_of_str (fin _ _ _ fun _ _ z => z) h2
        | _ => cases hr
      unfold reprD at e
      split at e
      · cases e
        cases r1 with
        | dK hl rs =>
          cases rs
          cases ru
          obtain ⟨_, hsm, vs, hvs, o, es, ep, g1, g2, g3, g4⟩ := L2.dk_rd I.hok hl.1
          cases hvs
          refine main [_] (.dict (es := es) (n := ep) (as := []) (bs := []) g1 g2.1 g3 ?_ ?_) fun _ z => ?_
          · have e0 : es.toList = [] := pairs_nil g4.2.1
            rw [e0]; exact .nil
          · have e0 : es.toList = [] := pairs_nil g4.2.1
            rw [e0]; exact .nil
          · rw [List.mem_singleton.mp z] at hsm
            simp at hsm
      · obtain ⟨hd, hp⟩ := dp_at rh r1 e
        obtain ⟨as, hr⟩ := hd.reads I _ _ _ ru
        exact main as hr (PyData.noDict_hsm (plain_noDict _ hp))
    · exact p.elim
  · exact p.elim
end
end HS
end
-- text EvLeaf
section
set_option Elab.async false
set_option linter.all false
set_option maxRecDepth 100000

/-! Expressions, each from its parts. -/
namespace HS
open PySem PySem.Spec PyProof.Rows
section
variable {X : L2.Cx} {T : Tx} {E : XK} {pos : Pos}
theorem PE.imp {e : Expr} {t t' : L2.TE} (h : L2.PE X e t) (i : ∀ σ H Q, t' σ H Q → t σ H Q) : L2.PE X e t' := ⟨fun pins s σ H Q I q => h.run pins s σ H Q I (i σ H Q q)⟩
theorem PT.imp {e : Expr} {t t' : L2.TT} (h : L2.PT X e t) (i : ∀ σ H Q, t' σ H Q → t σ H Q) : L2.PT X e t' := ⟨fun pins s σ H Q I q => h.run pins s σ H Q I (i σ H Q q)⟩
theorem PA.imp {e : List Expr} {t t' : L2.TA} (h : L2.PA X e t) (i : ∀ σ H Q, t' σ H Q → t σ H Q) : L2.PA X e t' := ⟨fun pos pins s σ H Q I q => h.run pos pins s σ H Q I (i σ H Q q)⟩
theorem PS.imp {e : Stmt} {t t' : L2.TS} (h : L2.PS X e t) (i : ∀ D σ H, t' D σ H → t D σ H) : L2.PS X e t' := ⟨fun pins s σ H D I q => h.run pins s σ H D I (i D σ H q)⟩
abbrev tEX (X : L2.Cx) (T : Tx) (E : XK) (f : ES) : L2.TE := tE (bsOf X T) E f
abbrev tTX (X : L2.Cx) (T : Tx) (E : XK) (f : TSm) : L2.TT := tT (bsOf X T) E f
abbrev tAX (X : L2.Cx) (T : Tx) (E : XK) (f : Sg → M (List PV)) : L2.TA := tA (bsOf X T) E f

/-! ### the text's small facts -/
theorem star_cons {e : Expr} {es : List Expr} {env : Env} (h : isStar e = false) : starEach (e :: es) env = (false, eval e env) :: starEach es env := by
  cases e <;> first | rfl | cases h
theorem star_any {env : Env} {pos : Pos} : ∀ {es : List Expr}, es.any isStar = false → ((backTo pos (starEach es env)).any (·.1)) = false
  | [], _ => rfl
  | e :: es, h => by
    rw [List.any_cons, Bool.or_eq_false_iff] at h
    rw [star_cons h.1]
    show (false || (backTo pos (starEach es env)).any (·.1)) = false
    rw [star_any h.2]
    rfl
theorem star_len {env : Env} : ∀ {es : List Expr}, (starEach es env).length = es.length
  | [] => rfl
  | e :: es => by
    cases e <;> exact congrArg (· + 1) (star_len (es := es))
theorem plain_ix {b : Expr} (h : isSlice b = false) : L2.PlainIx b := by
  intro o i
  cases b <;> first | rfl | cases h
theorem no_behind {op : CmpOp} {b : Expr} (h : isSetD b = false) : behindInMarks op b = false := by
  cases b <;> first | rfl | cases h
theorem plain_base {o : Expr} {m : Str} {env : Env} {t : Sem Value} (h : ∀ f p q, o ≠ .Call (.Name f p) [] [] q) : attributeBase o m env t = t := by
  unfold attributeBase
  split
  · exact absurd rfl (h _ _ _)
  · rfl
theorem no_fold {e : Expr} {env : Env} (h : isSetD e = false) : ∀ x, foldedSetIterable e env x = pure x := by
  intro x
  cases e <;> first | rfl | cases h
theorem plain_test {e : Expr} {env : Env} (h : ownTest e = false) : ∀ whole, isTrue e env whole = (do let v ← whole; standAt e.pos; holding [v] (truthy v)) := by
  intro whole
  cases e with
  | UnaryOp op a p => cases op <;> first | rfl | cases h
  | _ => first | rfl | cases h

/-! ### readings -/
theorem e_cst {v : PV} {x : V} {e : Expr} (h : L2.PE X e (L2.tC x)) (rv : ∀ hd ρ H, RV (bW X T hd) ρ H x v) : L2.PE X e (tEX X T E (eCst v)) := PE.imp h fun σ H Q ⟨hd, ρ, sg, h, rs, rh, p⟩ => p.ret rh (rv hd ρ H)
theorem e_var {i : Nat} {x : Str} (hN : X.N[i]? = some x) (hv : L2.Vis X.env.scope x) (h1 : (x == ("__debug__" : Str)) = false) (h2 : (x == ("__classdict__" : Str)) = false) : L2.PE X (.Name x pos) (tEX X T E (eVar i)) :=
  PE.imp (L2.pe_var hN hv h1 h2) fun σ H Q ⟨hd, ρ, sg, h, rs, rh, p⟩ => by
    unfold eVar at p
    split at p
    · rename_i v e
      obtain ⟨x, h1, h2⟩ := rs.get i v e
      exact ⟨x, h1, p.ret rh h2⟩
    · exact p.elim
theorem e_bin {a b : Expr} {x y : ES} {op : Operator} {m : Bool} {f : PV → PV → M PV} (e : binD m op = some f) (ha : L2.PE X a (tEX X T E x)) (hb : L2.PE X b (tEX X T E y)) : L2.PE X (.BinOp a op b pos) (tEX X T E (eBin f x y)) :=
  PE.imp (L2.pe_op (op_bin e) ha hb) fun σ H Q q => tE.bin (fun _ => rfl) q
theorem e_neg {a : Expr} {x : ES} (ha : L2.PE X a (tEX X T E x)) : L2.PE X (.UnaryOp .USub a pos) (tEX X T E (eUn uNeg x)) :=
  PE.imp (L2.pe_un un_uNeg ha) fun σ H Q q => tE.un (fun _ => rfl) q
/-- a value's truth in what is wanted -/
theorem tru_v {hd : List Addr} {ρ : List Addr} {H : Hp} {h : Hv} {x : V} {pv : PV} {b : Bool} (rh : RH (bW X T hd) ρ h H) (r1 : RV (bW X T hd) ρ H x pv) (e : truthOf h pv = some b) : L2.TruV X.K x H b := by
  cases r1 with
  | non => cases e; rfl
  | bl _ => cases e; rfl
  | int _ => cases e; rfl
  | str z =>
    have e : (if z.length ≤ sizeLine then some ((z.length : Int) != 0) else none) = some b := e
    split at e
    · rename_i hz
      cases e
      exact ⟨hz, rfl⟩
    · cases e
  | tup ht rs =>
    cases e
    exact .inr (.inl ⟨_, ht.sq, by cases rs <;> rfl⟩)
  | lst hl _ rs =>
    cases e
    exact .inl ⟨_, .inl (.inl hl), by cases rs <;> rfl⟩
  | @scr _ ns hl =>
    cases e
    exact .inl ⟨_, hl.sq, by cases ns <;> rfl⟩
  | @ref k a hk =>
    have e : (match cellL h k with | some xs => some (!xs.isEmpty) | none => none) = some b := e
    split at e
    · rename_i xs q
      cases e
      obtain ⟨a', ys, e2, hl, rs⟩ := lst_at (v := .ref k) rh (.ref hk) q
      cases e2
      exact .inl ⟨_, .inl (.inl hl), by cases rs <;> rfl⟩
    · cases e
  | _ => cases e
theorem truM {α β : Type} {RA : List Addr → Hp → β → α → Prop} {B : Bs} {ρ : List Addr} {H : Hp} {h : Hv} {pv : PV} {f : Bool → M α} {Q : β → Hp → Prop} (p : PostR B RA E ρ H (((truthM pv).bnd f) h) Q) : ∃ b, truthOf h pv = some b ∧ PostR B RA E ρ H (f b h) Q := by
  unfold M.bnd truthM at p
  cases e : truthOf h pv with
  | none =>
    rw [e] at p
    exact p.elim
  | some b =>
    rw [e] at p
    exact ⟨b, rfl, p⟩
theorem e_not {a : Expr} {x : ES} (ha : L2.PE X a (tEX X T E x)) : L2.PE X (.UnaryOp .Not a pos) (tEX X T E (eNot x)) :=
  PE.imp (L2.pe_notT ha) fun σ H Q ⟨hd, ρ, sg, h, rs, rh, p⟩ => ⟨hd, ρ, sg, h, rs, rh, p.bnd.mono fun x H1 ⟨ρ1, h1, v, s1, r1, rv, p1⟩ => by
    obtain ⟨b, e, p2⟩ := truM p1
    exact ⟨b, tru_v r1 rv e, p2.ret r1 (.bl _)⟩⟩
theorem e_or {a b : Expr} {rest : List Expr} {x y : ES} (ha : L2.PE X a (tEX X T E x)) (hb : L2.PE X (.BoolOp .Or (b :: rest) pos) (tEX X T E y)) : L2.PE X (.BoolOp .Or (a :: b :: rest) pos) (tEX X T E (eOr x y)) :=
  PE.imp (L2.pe_orT ha hb) fun σ H Q ⟨hd, ρ, sg, h, rs, rh, p⟩ => ⟨hd, ρ, sg, h, rs, rh, p.bnd.mono fun x H1 ⟨ρ1, h1, v, s1, r1, rv, p1⟩ => by
    obtain ⟨b, e, p2⟩ := truM p1
    refine ⟨b, tru_v r1 rv e, ?_⟩
    cases b with
    | true => exact p2.ret r1 rv
    | false => exact ⟨hd, ρ1, sg, h1, rs.step s1, r1, p2⟩⟩
theorem e_and {a b : Expr} {rest : List Expr} {x y : ES} (ha : L2.PE X a (tEX X T E x)) (hb : L2.PE X (.BoolOp .And (b :: rest) pos) (tEX X T E y)) : L2.PE X (.BoolOp .And (a :: b :: rest) pos) (tEX X T E (eAnd x y)) :=
  PE.imp (L2.pe_andT ha hb) fun σ H Q ⟨hd, ρ, sg, h, rs, rh, p⟩ => ⟨hd, ρ, sg, h, rs, rh, p.bnd.mono fun x H1 ⟨ρ1, h1, v, s1, r1, rv, p1⟩ => by
    obtain ⟨b, e, p2⟩ := truM p1
    refine ⟨b, tru_v r1 rv e, ?_⟩
    cases b with
    | false => exact p2.ret r1 rv
    | true => exact ⟨hd, ρ1, sg, h1, rs.step s1, r1, p2⟩⟩
/-- several in a row, each told -/
inductive EachE (X : L2.Cx) (T : Tx) (E : XK) : List Expr → List ES → Prop
  | nil : EachE X T E [] []
  | cons {e : Expr} {f : ES} {es : List Expr} {fs : List ES} : L2.PE X e (tEX X T E f) → EachE X T E es fs → EachE X T E (e :: es) (f :: fs)
inductive EachT (X : L2.Cx) (T : Tx) (E : XK) : List Expr → List TSm → Prop
  | nil : EachT X T E [] []
  | cons {e : Expr} {f : TSm} {es : List Expr} {fs : List TSm} : L2.PT X e (tTX X T E f) → EachT X T E es fs → EachT X T E (e :: es) (f :: fs)
theorem e_orL : ∀ {es : List Expr} {fs : List ES} {f : ES}, EachE X T E es fs → orList fs = some f → L2.PE X (.BoolOp .Or es pos) (tEX X T E f)
  | _, _, _, .cons h .nil, e => by cases e; exact L2.pe_one h
  | _, _, _, .cons h (.cons h2 t), e => by
    unfold orList at e
    obtain ⟨g, e1, e2⟩ := Option.map_eq_some_iff.mp e
    subst e2
    exact e_or h (e_orL (.cons h2 t) e1)
theorem e_andL : ∀ {es : List Expr} {fs : List ES} {f : ES}, EachE X T E es fs → andList fs = some f → L2.PE X (.BoolOp .And es pos) (tEX X T E f)
  | _, _, _, .cons h .nil, e => by cases e; exact L2.pe_one h
  | _, _, _, .cons h (.cons h2 t), e => by
    unfold andList at e
    obtain ⟨g, e1, e2⟩ := Option.map_eq_some_iff.mp e
    subst e2
    exact e_and h (e_andL (.cons h2 t) e1)
/-! ### tests -/
theorem t_val {a : Expr} {x : ES} (ha : L2.PE X a (tEX X T E x)) (h : ownTest a = false) : L2.PT X a (tTX X T E (tVal x)) :=
  PT.imp (L2.pt_truth ha (plain_test h)) fun σ H Q ⟨hd, ρ, sg, h, rs, rh, p⟩ => ⟨hd, ρ, sg, h, rs, rh, p.bnd.mono fun x H1 ⟨ρ1, h1, v, s1, r1, rv, p1⟩ => by
    have p1 : PostR (bW X T hd) RB E ρ1 H1 (((truthM v).bnd M.ret) h1) Q := by
      have e : (truthM v).bnd M.ret = truthM v := by
        funext h
        unfold M.bnd M.ret
        split <;> rename_i q <;> exact q.symm
      rw [e]
      exact p1
    obtain ⟨b, e, p2⟩ := truM p1
    exact ⟨b, tru_v r1 rv e, p2.ret r1 rfl⟩⟩
theorem t_not {a : Expr} {x : TSm} (ha : L2.PT X a (tTX X T E x)) : L2.PT X (.UnaryOp .Not a pos) (tTX X T E (tNot x)) :=
  PT.imp (L2.pt_not ha) fun σ H Q ⟨hd, ρ, sg, h, rs, rh, p⟩ => ⟨hd, ρ, sg, h, rs, rh, p.bnd.mono fun x H1 ⟨ρ1, h1, v, s1, r1, rv, p1⟩ => by
    have rv : x = v := rv
    subst rv
    exact p1.ret r1 rfl⟩
theorem w_orL : ∀ {es : List Expr} {fs : List TSm} {f : TSm}, EachT X T E es fs → tOrList fs = some f → L2.PW X (.BoolOp .Or es pos) (tTX X T E f)
  | _, _, _, .cons h .nil, e => by cases e; exact L2.pw_or1 h
  | _, _, _, .cons h (.cons h2 t), e => by
    unfold tOrList at e
    obtain ⟨g, e1, e2⟩ := Option.map_eq_some_iff.mp e
    subst e2
    refine ⟨fun wh pins s σ H Q I ⟨hd, ρ, sg, h', rs, rh, p⟩ => (L2.pw_or h (w_orL (.cons h2 t) e1)).run wh pins s σ H Q I ⟨hd, ρ, sg, h', rs, rh, p.bnd.mono fun x H1 ⟨ρ1, h1, v, s1, r1, rv, p1⟩ => ?_⟩⟩
    have rv : x = v := rv
    subst rv
    cases x with
    | true => exact p1.ret r1 rfl
    | false => exact ⟨hd, ρ1, sg, h1, rs.step s1, r1, p1⟩
theorem w_andL : ∀ {es : List Expr} {fs : List TSm} {f : TSm}, EachT X T E es fs → tAndList fs = some f → L2.PW X (.BoolOp .And es pos) (tTX X T E f)
  | _, _, _, .cons h .nil, e => by cases e; exact L2.pw_and1 h
  | _, _, _, .cons h (.cons h2 t), e => by
    unfold tAndList at e
    obtain ⟨g, e1, e2⟩ := Option.map_eq_some_iff.mp e
    subst e2
    refine ⟨fun wh pins s σ H Q I ⟨hd, ρ, sg, h', rs, rh, p⟩ => (L2.pw_and h (w_andL (.cons h2 t) e1)).run wh pins s σ H Q I ⟨hd, ρ, sg, h', rs, rh, p.bnd.mono fun x H1 ⟨ρ1, h1, v, s1, r1, rv, p1⟩ => ?_⟩⟩
    have rv : x = v := rv
    subst rv
    cases x with
    | false => exact p1.ret r1 rfl
    | true => exact ⟨hd, ρ1, sg, h1, rs.step s1, r1, p1⟩
theorem e_if {t a b : Expr} {c : TSm} {x y : ES} (ht : L2.PT X t (tTX X T E c)) (ha : L2.PE X a (tEX X T E x)) (hb : L2.PE X b (tEX X T E y)) : L2.PE X (.IfExp t a b pos) (tEX X T E (eIf c x y)) :=
  PE.imp (L2.pe_ifExp ht ha hb) fun σ H Q ⟨hd, ρ, sg, h, rs, rh, p⟩ => ⟨hd, ρ, sg, h, rs, rh, p.bnd.mono fun x H1 ⟨ρ1, h1, v, s1, r1, rv, p1⟩ => by
    have rv : x = v := rv
    subst rv
    cases x with
    | false => exact ⟨hd, ρ1, sg, h1, rs.step s1, r1, p1⟩
    | true => exact ⟨hd, ρ1, sg, h1, rs.step s1, r1, p1⟩⟩
/-! ### comparisons -/
theorem e_cmp {a b : Expr} {x y : ES} {op : CmpOp} (hu : X.A.units + 200 < cLine) (ha : L2.PE X a (tEX X T E x)) (hb : L2.PE X b (tEX X T E y)) (hs : isSetD b = false) : L2.PE X (.Compare a [op] [b] pos) (tEX X T E (eBin (cmpD op) x y)) :=
  PE.imp (L2.pe_cmpR (op_cmp hu op) ha hb (no_behind hs)) fun σ H Q q => tE.bin (fun _ => rfl) q
theorem blM {α β : Type} {RA : List Addr → Hp → β → α → Prop} {hd : List Addr} {ρ : List Addr} {H : Hp} {h : Hv} {x : V} {pv : PV} {f : Bool → M α} {Q : β → Hp → Prop} (rv : RV (bW X T hd) ρ H x pv) (p : PostR (bW X T hd) RA E ρ H ((match (generalizing := false) pv with
    | .bl b => f b
    | _ => M.stk : M α) h) Q) : ∃ b, x = .bl b ∧ PostR (bW X T hd) RA E ρ H (f b h) Q := by
  cases pv with
  | bl b => exact ⟨b, rv_bl rv, p⟩
  | _ => exact p.elim
theorem t_bl {x : ES} {σ : L2.St} {H : Hp} {Q : Bool → Hp → Prop} (q : tTX X T E (tBl x) σ H Q) : L2.tTest (tEX X T E x) σ H Q := by
  obtain ⟨hd, ρ, sg, h, rs, rh, p⟩ := q
  refine ⟨hd, ρ, sg, h, rs, rh, p.bnd.mono fun x H1 ⟨ρ1, h1, v, s1, r1, rv, p1⟩ => ?_⟩
  obtain ⟨b, e, p2⟩ := blM (f := M.ret) rv p1
  exact ⟨b, e, p2.ret r1 rfl⟩
theorem t_cmp {a b : Expr} {x y : ES} {op : CmpOp} (hu : X.A.units + 200 < cLine) (ha : L2.PE X a (tEX X T E x)) (hb : L2.PE X b (tEX X T E y)) (hs : isSetD b = false) : L2.PT X (.Compare a [op] [b] pos) (tTX X T E (tBl (eBin (cmpD op) x y))) :=
  PT.imp (L2.pt_cmpR (op_cmp hu op) ha hb (no_behind hs)) fun σ H Q q => tE.bin (f := eBin (cmpD op) x y) (fun _ => rfl) (t_bl q)
theorem chain_in {f g : PV → PV → M PV} {x y z : ES} {σ : L2.St} {H : Hp} {Q : L2.VK} (q : tEX X T E (eChain f g x y z) σ H Q) : L2.tChain (rOp (bsOf X T) E f) (rOp (bsOf X T) E g) (tEX X T E x) (tEX X T E y) (tEX X T E z) σ H Q := by
  obtain ⟨hd, ρ, sg, h, rs, rh, p⟩ := q
  refine ⟨hd, ρ, sg, h, rs, rh, p.bnd.mono fun x H1 ⟨ρ1, h1, v, s1, r1, rv, p1⟩ => ?_⟩
  refine ⟨hd, ρ1, sg, h1, rs.step s1, r1, p1.bnd.mono fun y H2 ⟨ρ2, h2, w, s2, r2, rw', p2⟩ => ?_⟩
  refine ⟨hd, ρ2, h2, v, w, r2, rv.step s2, rw', p2.bnd.mono fun z H3 ⟨ρ3, h3, b, s3, r3, rb, p3⟩ => ?_⟩
  cases b with
  | bl b =>
    refine ⟨b, rv_bl rb, ?_⟩
    cases b with
    | false => exact PostR.ret p3 r3 (.bl _)
    | true =>
      refine ⟨hd, ρ3, sg, h3, rs.step (s1.trans (s2.trans s3)), r3, PostR.bnd p3 |>.mono fun u H4 ⟨ρ4, h4, c, s4, r4, rc, p4⟩ => ?_⟩
      refine ⟨hd, ρ4, h4, w, c, r4, rw'.step (s3.trans s4), rc, PostR.bnd p4 |>.mono fun r H5 ⟨ρ5, h5, d, s5, r5, rd, p5⟩ => ?_⟩
      cases d with
      | bl d =>
        obtain rfl := rv_bl rd
        exact PostR.ret p5 r5 (.bl _)
      | _ => exact p5.elim
  | _ => exact p3.elim
theorem last_marks {op op' : CmpOp} {b c : Expr} (h : isSetD c = false) : lastMarks [op, op'] [b, c] = false := no_behind h
theorem e_chain {a b c : Expr} {x y z : ES} {op op' : CmpOp} (hu : X.A.units + 200 < cLine) (ha : L2.PE X a (tEX X T E x)) (hb : L2.PE X b (tEX X T E y)) (hc : L2.PE X c (tEX X T E z)) (hs : isSetD c = false) : L2.PE X (.Compare a [op, op'] [b, c] pos) (tEX X T E (eChain (cmpD op) (cmpD op') x y z)) :=
  PE.imp (L2.pe_chain (op_cmp hu op) (op_cmp hu op') ha hb hc (last_marks hs)) fun σ H Q q => chain_in q
theorem t_chain {a b c : Expr} {x y z : ES} {op op' : CmpOp} (hu : X.A.units + 200 < cLine) (ha : L2.PE X a (tEX X T E x)) (hb : L2.PE X b (tEX X T E y)) (hc : L2.PE X c (tEX X T E z)) (hs : isSetD c = false) : L2.PT X (.Compare a [op, op'] [b, c] pos) (tTX X T E (tBl (eChain (cmpD op) (cmpD op') x y z))) :=
  PT.imp (L2.pt_chain (op_cmp hu op) (op_cmp hu op') ha hb hc (last_marks hs)) fun σ H Q q => chain_in (t_bl q)
/-! ### argument lists -/
theorem a_all : ∀ {es : List Expr} {fs : List ES}, EachE X T E es fs → es.any isStar = false → L2.PA X es (tAX X T E (eAll fs))
  | _, _, .nil, _ => PA.imp L2.pa_nil fun σ H Q ⟨hd, ρ, sg, h, rs, rh, p⟩ => p.ret rh .nil
  | _, _, .cons h t, hs => by
    rw [List.any_cons, Bool.or_eq_false_iff] at hs
    refine PA.imp (L2.pa_cons h (a_all t hs.2) (star_cons hs.1)) fun σ H Q ⟨hd, ρ, sg, h, rs, rh, p⟩ => ⟨hd, ρ, sg, h, rs, rh, p.bnd.mono fun x H1 ⟨ρ1, h1, v, s1, r1, rv, p1⟩ => ?_⟩
    refine ⟨hd, ρ1, sg, h1, rs.step s1, r1, p1.bnd.mono fun xs H2 ⟨ρ2, h2, vs, s2, r2, rvs, p2⟩ => ?_⟩
    exact p2.ret r2 (.cons (rv.step s2) rvs)
theorem e_tup {es : List Expr} {fs : List ES} {k : Nat} (h : EachE X T E es fs) (hs : es.any isStar = false) : L2.PE X (.Tuple es k pos) (tEX X T E (eTup fs)) :=
  PE.imp (L2.pe_tup (a_all h hs)) fun σ H Q ⟨hd, ρ, sg, h, rs, rh, p⟩ => ⟨hd, ρ, sg, h, rs, rh, p.bnd.mono fun xs H1 ⟨ρ1, h1, vs, s1, r1, rvs, p1⟩ => ⟨by rw [rvs.length]; exact len_mkT p1, fun q hq => finT (mkT_ok p1) r1 rvs hq⟩⟩
theorem e_lst {es : List Expr} {fs : List ES} {m : Bool} (h : EachE X T E es fs) (hs : es.any isStar = false) : L2.PE X (.List es pos) (tEX X T E (eLst m fs)) :=
  PE.imp (L2.pe_lst (a_all h hs)) fun σ H Q ⟨hd, ρ, sg, h, rs, rh, p⟩ => ⟨hd, ρ, sg, h, rs, rh, p.bnd.mono fun xs H1 ⟨ρ1, h1, vs, s1, r1, rvs, p1⟩ => ⟨by rw [rvs.length]; exact len_mkL p1, fun q hq => finL p1 r1 rvs hq⟩⟩
/-! ### subscripts -/
theorem e_ix {a b : Expr} {x y : ES} (hu : X.A.units + 200 < cLine) (ha : L2.PE X a (tEX X T E x)) (hb : L2.PE X b (tEX X T E y)) (hs : isSlice b = false) : L2.PE X (.Subscript a b pos) (tEX X T E (eBin sIx x y)) :=
  PE.imp (L2.pe_ix (ix_sIx hu) ha hb (plain_ix hs)) fun σ H Q q => tE.bin (fun _ => rfl) q
theorem e_slice {a : Expr} {lo hi : Option Expr} {x : ES} {l u : Sg → M (Option Int)} {m : Bool} {p2 : Pos} (ha : L2.PE X a (tEX X T E x)) (hl : L2.PO X lo (tP (bsOf X T) E l)) (hh : L2.PO X hi (tP (bsOf X T) E u)) :
    L2.PE X (.Subscript a (.Slice lo hi none p2) pos) (tEX X T E (eSlice m x l u)) :=
  PE.imp (L2.pe_slice (sl_sSlice (m := m)) ha hl hh) fun σ H Q ⟨hd, ρ, sg, h, rs, rh, p⟩ => ⟨hd, ρ, sg, h, rs, rh, p.bnd.mono fun x H1 ⟨ρ1, h1, v, s1, r1, rv, p1⟩ => by
    refine ⟨hd, ρ1, sg, h1, rs.step s1, r1, p1.bnd.mono fun i H2 ⟨ρ2, h2, i', s2, r2, ri, p2⟩ => ?_⟩
    have ri : i = i' := ri
    subst ri
    refine ⟨hd, ρ2, sg, h2, rs.step (s1.trans s2), r2, p2.bnd.mono fun j H3 ⟨ρ3, h3, j', s3, r3, rj, p3⟩ => ?_⟩
    have rj : j = j' := rj
    subst rj
    exact ⟨hd, ρ3, h3, v, r3, rv.step (s2.trans s3), p3⟩⟩
/-! ### calls of built-ins -/
theorem e_call1 {a : Expr} {x : ES} {f : PV → M PV} {g : Str} {p : Pos} {id : String} (hc : L2.CallR X (.builtin id) (rC1 (bsOf X T) E f)) (hg : L2.Gl X g) (hm : X.mg g = none) (hb : bootBuiltins g = some (.builtin id)) (h1 : g ≠ "__name__") (h2 : (g == ("__debug__" : Str)) = false)
    (ha : L2.PE X a (tEX X T E x)) (hs : isStar a = false) : L2.PE X (.Call (.Name g p) [a] [] pos) (tEX X T E (eCall1 f x)) :=
  PE.imp (L2.pe_callB hc hg hm hb (a_all (.cons ha .nil) (by rw [List.any_cons, hs]; rfl)) h1 h2 (star_cons hs) rfl) fun σ H Q ⟨hd, ρ, sg, h, rs, rh, p⟩ => ⟨hd, ρ, sg, h, rs, rh, by
    show PostVs (bW X T hd) E ρ H (((x sg).bnd fun y => M.ret [y]) h) _
    have p : PostV (bW X T hd) E ρ H (((x sg).bnd f) h) Q := p
    cases q : x sg h with
    | ok v h1 =>
      have e1 : ((x sg).bnd fun y => M.ret [y]) h = .ok [v] h1 := by unfold M.bnd M.ret; rw [q]
      have e2 : ((x sg).bnd f) h = f v h1 := by unfold M.bnd; rw [q]
      rw [e1]
      rw [e2] at p
      intro ρ1 H1 us s1 r1 rv
      cases rv with
      | cons rv rr =>
        cases rr
        exact ⟨_, rfl, hd, ρ1, h1, v, r1, rv, p.step s1⟩
    | exc e h1 =>
      have e1 : ((x sg).bnd fun y => M.ret [y]) h = .exc e h1 := by unfold M.bnd; rw [q]
      have e2 : ((x sg).bnd f) h = .exc e h1 := by unfold M.bnd; rw [q]
      rw [e1]
      rw [e2] at p
      exact p
    | stuck =>
      have e2 : ((x sg).bnd f) h = .stuck := by unfold M.bnd; rw [q]
      rw [e2] at p
      exact p.elim⟩
end
end HS
end
-- text EvHide
section
set_option Elab.async false
set_option linter.all false
set_option maxRecDepth 100000

/-! An object in the making: hidden from the values until it is done. -/
namespace HS
open PySem PySem.Spec PyProof.Rows
def rm (H : Hp) (p : Addr) : Hp := fun b => if b = p then none else H b
theorem rm_ne {H : Hp} {a b : Addr} (h : b ≠ a) : rm H a b = H b := if_neg h
theorem rm_same {H : Hp} {a : Addr} : rm H a a = none := if_pos rfl
theorem upd_rm {H : Hp} {p : Addr} {o : HO} : L2.upd (rm H p) p o = L2.upd H p o := by
  funext b
  unfold L2.upd rm
  by_cases e : b = p
  · show (if b = p then some o else (if b = p then none else H b)) = (if b = p then some o else H b)
    rw [if_pos e, if_pos e]
  · show (if b = p then some o else (if b = p then none else H b)) = (if b = p then some o else H b)
    rw [if_neg e, if_neg e, if_neg e]
theorem rm_upd {H : Hp} {p : Addr} {o : HO} : rm (L2.upd H p o) p = rm H p := by
  funext b
  unfold L2.upd rm
  by_cases e : b = p
  · show (if b = p then none else (if b = p then some o else H b)) = (if b = p then none else H b)
    rw [if_pos e, if_pos e]
  · show (if b = p then none else (if b = p then some o else H b)) = (if b = p then none else H b)
    rw [if_neg e, if_neg e, if_neg e]
section
variable {B B' : Bs} {ρ : List Addr} {H H' : Hp} {h : Hv}
/-- the same written part -/
structure Alike (B B' : Bs) : Prop where
  K : B'.K = B.K
  mg : B'.mg = B.mg
  w : B'.w = B.w
  T : B'.T = B.T
theorem At.move {a : Addr} {u : HO} (r : At B ρ H a u) (e : Out B ρ a → H a ≠ none → H' a = H a ∧ Out B' ρ a) : At B' ρ H' a u := by
  obtain ⟨r, n⟩ := r
  obtain ⟨e1, e2⟩ := e n (Rd.some r)
  refine ⟨?_, e2⟩
  rcases r with r | ⟨o, r⟩
  · exact .inl (e1.trans r)
  · exact .inr ⟨o, e1.trans r⟩
mutual
/-- the same values over another heap, where what they lean on is the same -/
theorem RV.move (al : Alike B B') (e : ∀ a, Out B ρ a → H a ≠ none → H' a = H a ∧ Out B' ρ a) : ∀ {x : V} {v : PV}, RV B ρ H x v → RV B' ρ H' x v
  | _, _, .non => .non
  | _, _, .bl b => .bl b
  | _, _, .int i => .int i
  | _, _, .str x => .str x
  | _, _, .tup h r => .tup (h.elim (fun h => .inl (At.move h (e _))) fun h => .inr (by rw [al.K]; exact h)) (RVs.move al e r)
  | _, _, .lst h n r => .lst ((e _ n (by rw [h]; exact fun z => nomatch z)).1.trans h) (e _ n (by rw [h]; exact fun z => nomatch z)).2 (RVs.move al e r)
  | _, _, .scr h => .scr (h.elim (fun h => .inl (At.move h (e _))) fun h => .inr (by rw [al.K]; exact h))
  | _, _, .dK h r => .dK (At.move h (e _)) (RKs.move al e r)
  | _, _, .set h n a b => .set ((e _ n (by rw [h]; exact fun z => nomatch z)).1.trans (by rw [al.w]; exact h)) (e _ n (by rw [h]; exact fun z => nomatch z)).2 a b
  | _, _, .rng h => .rng (At.move h (e _))
  | _, _, .ref h => .ref h
  | _, _, .fn h => .fn (by rw [al.mg]; exact h)
  | _, _, .exc h => .exc (by rw [al.T]; exact h)
  | _, _, .cb h => .cb (by rw [al.T]; exact h)
theorem RVs.move (al : Alike B B') (e : ∀ a, Out B ρ a → H a ≠ none → H' a = H a ∧ Out B' ρ a) : ∀ {xs : List V} {vs : List PV}, RVs B ρ H xs vs → RVs B' ρ H' xs vs
  | _, _, .nil => .nil
  | _, _, .cons h r => .cons (RV.move al e h) (RVs.move al e r)
theorem RKs.move (al : Alike B B') (e : ∀ a, Out B ρ a → H a ≠ none → H' a = H a ∧ Out B' ρ a) : ∀ {xs : List (Key × V)} {vs : List (Key × PV)}, RKs B ρ H xs vs → RKs B' ρ H' xs vs
  | _, _, .nil => .nil
  | _, _, .cons h r => .cons (RV.move al e h) (RKs.move al e r)
end
theorem RS.move (al : Alike B B') (e : ∀ a, Out B ρ a → H a ≠ none → H' a = H a ∧ Out B' ρ a) {sg : Sg} {σ : L2.St} (r : RS B ρ H sg σ) : RS B' ρ H' sg σ := ⟨r.len, fun i v ei => let ⟨x, h1, h2⟩ := r.get i v ei; ⟨x, h1, h2.move al e⟩⟩
theorem XcOk.move (al : Alike B B') (e : ∀ a, Out B ρ a → H a ≠ none → H' a = H a ∧ Out B' ρ a) (x : XcOk B ρ H) : XcOk B' ρ H' := by
  refine ⟨fun a dd c fs ee => ?_, fun f c q sg σ ee => ?_⟩
  · obtain ⟨h1, xs, h2, h3⟩ := x.ex a dd c fs (by rw [← al.T]; exact ee)
    have q := e dd h1 (by rw [h2]; exact fun z => nomatch z)
    refine ⟨q.2, xs, q.1.trans h2, fun f v ef => ?_⟩
    obtain ⟨y, g1, g2⟩ := h3 f v ef
    exact ⟨y, g1, g2.move al e⟩
  · obtain ⟨h1, h2, h3⟩ := x.cb f c q sg σ (by rw [← al.T]; exact ee)
    have z := e c h1 (by rw [h2]; exact fun z => nomatch z)
    exact ⟨z.2, z.1.trans h2, h3.move al e⟩
theorem RC.move (al : Alike B B') (e : ∀ a, Out B ρ a → H a ≠ none → H' a = H a ∧ Out B' ρ a) {a : Addr} {c : Cell} (r : RC B ρ H a c) (ea : H' a = H a) : RC B' ρ H' a c := by
  cases c with
  | lst vs =>
    obtain ⟨xs, h1, h2⟩ := r
    exact ⟨xs, ea.trans h1, RVs.move al e h2⟩
  | dK vs =>
    obtain ⟨xs, h1, h2⟩ := r
    exact ⟨xs, ea.trans h1, RKs.move al e h2⟩
  | dT _ => exact r
  | ins _ _ => exact r
variable {p : Addr} {o : HO} {hd : List Addr}
abbrev Bs.hide (B : Bs) (p : Addr) : Bs := B.wh (p :: B.hid)
theorem alike_hide : Alike B (B.hide p) := ⟨rfl, rfl, rfl, rfl⟩
theorem alike_drop : Alike (B.hide p) B := ⟨rfl, rfl, rfl, rfl⟩
theorem alike_re : Alike (B.hide p) (B.hide p) := ⟨rfl, rfl, rfl, rfl⟩
theorem hide_at (hp : H p = none) : ∀ a, Out B ρ a → H a ≠ none → L2.upd H p o a = H a ∧ Out (B.hide p) ρ a := fun a n l => by
  have ne : a ≠ p := fun z => l (z ▸ hp)
  exact ⟨L2.upd_ne ne, n.1, fun z => by
    rcases List.mem_cons.mp z with z | z
    · exact ne z
    · exact n.2 z⟩
theorem rehide_at : ∀ a, Out (B.hide p) ρ a → H a ≠ none → L2.upd H p o a = H a ∧ Out (B.hide p) ρ a := fun a n l => by
  have ne : a ≠ p := fun z => n.2 (by rw [z]; exact List.mem_cons_self ..)
  exact ⟨L2.upd_ne ne, n⟩
theorem drop_at : ∀ a, Out (B.hide p) ρ a → H a ≠ none → rm H p a = H a ∧ Out B ρ a := fun a n l => by
  have ne : a ≠ p := fun z => n.2 (by rw [z]; exact List.mem_cons_self ..)
  exact ⟨rm_ne ne, n.1, fun z => n.2 (List.mem_cons_of_mem _ z)⟩
theorem RV.hide {x : V} {v : PV} (r : RV B ρ H x v) (hp : H p = none) : RV (B.hide p) ρ (L2.upd H p o) x v := r.move (B' := B.hide p) alike_hide (hide_at hp)
theorem RV.rehide {x : V} {v : PV} (r : RV (B.hide p) ρ H x v) : RV (B.hide p) ρ (L2.upd H p o) x v := r.move (B' := B.hide p) alike_re rehide_at
theorem RV.drop {x : V} {v : PV} (r : RV (B.hide p) ρ H x v) : RV B ρ (rm H p) x v := r.move (B' := B) alike_drop drop_at
theorem RVs.hide {x : List V} {v : List PV} (r : RVs B ρ H x v) (hp : H p = none) : RVs (B.hide p) ρ (L2.upd H p o) x v := r.move (B' := B.hide p) alike_hide (hide_at hp)
theorem RVs.rehide {x : List V} {v : List PV} (r : RVs (B.hide p) ρ H x v) : RVs (B.hide p) ρ (L2.upd H p o) x v := r.move (B' := B.hide p) alike_re rehide_at
theorem RVs.dropH {x : List V} {v : List PV} (r : RVs (B.hide p) ρ H x v) : RVs B ρ (rm H p) x v := r.move (B' := B) alike_drop drop_at
theorem RKs.dropH {x : List (Key × V)} {v : List (Key × PV)} (r : RKs (B.hide p) ρ H x v) : RKs B ρ (rm H p) x v := r.move (B' := B) alike_drop drop_at
theorem RS.hide {sg : Sg} {σ : L2.St} (r : RS B ρ H sg σ) (hp : H p = none) : RS (B.hide p) ρ (L2.upd H p o) sg σ := ⟨r.len, fun i v e => let ⟨x, h1, h2⟩ := r.get i v e; ⟨x, h1, h2.hide hp⟩⟩
theorem RS.rehide {sg : Sg} {σ : L2.St} (r : RS (B.hide p) ρ H sg σ) : RS (B.hide p) ρ (L2.upd H p o) sg σ := ⟨r.len, fun i v e => let ⟨x, h1, h2⟩ := r.get i v e; ⟨x, h1, h2.rehide⟩⟩
theorem RS.drop {sg : Sg} {σ : L2.St} (r : RS (B.hide p) ρ H sg σ) : RS B ρ (rm H p) sg σ := ⟨r.len, fun i v e => let ⟨x, h1, h2⟩ := r.get i v e; ⟨x, h1, h2.drop⟩⟩
theorem noTab_lst {xs : List V} : NoTab (.lst xs) := ⟨ne_tbl_lst, fun c q z => by unfold LamX.CodeO at z; cases z⟩
theorem noTab_dK {xs : List (Key × V)} : NoTab (.dK xs) := ⟨ne_tbl_dK, fun c q z => by unfold LamX.CodeO at z; cases z⟩
theorem Tabs.set {T : List (Addr × Str)} {o2 : HO} (t : LamX.Tabs T H) (hp : H p = some o2) (n : NoTab o2) (e : ∀ b, b ≠ p → H' b = H b) : LamX.Tabs T H' := fun q hq => by
  obtain ⟨ps, h1, h2, h3⟩ := t q hq
  have ne : q.1 ≠ p := fun z => by
    rw [z, hp] at h1
    exact n.1 _ (Option.some.inj h1)
  refine ⟨ps, (e _ ne).trans h1, h2, fun pos cv ec => ?_⟩
  obtain ⟨c, e1, e2⟩ := h3 pos cv ec
  refine ⟨c, e1, (e _ fun z => ?_).trans e2⟩
  rw [z, hp] at e2
  exact n.2 _ _ (Option.some.inj e2)
theorem RH.hide (r : RH B ρ h H) (hp : H p = none) (no : NoTab o) : RH (B.hide p) ρ h (L2.upd H p o) := by
  have hf := (r.fresh hp).1
  refine ⟨r.len, r.nd, fun k c a h1 h2 => (r.cell k c a h1 h2).move (B' := B.hide p) alike_hide (hide_at hp) (L2.upd_ne (b := a) (a := p) fun z => hf (z ▸ List.mem_of_getElem? h2)), (Step.laid (B := B) (ρ := ρ) (o := o) hp).tabs r.tabs, fun a ha => ?_, r.xc.move (B' := B.hide p) alike_hide (hide_at hp)⟩
  rcases List.mem_cons.mp ha with z | z
  · rw [z]
    exact ⟨hf, o, L2.upd_same, no⟩
  · obtain ⟨h1, u, h2, h3⟩ := r.hid a z
    refine ⟨h1, u, ?_, h3⟩
    rw [L2.upd_ne (b := a) (a := p) fun e => by rw [e, hp] at h2; cases h2]
    exact h2
theorem RH.hidden (r : RH (B.hide p) ρ h H) : p ∉ ρ := (r.hid p (List.mem_cons_self ..)).1
theorem RH.rehide {o2 : HO} (r : RH (B.hide p) ρ h H) (hp : H p = some o2) (n : NoTab o2) (no : NoTab o) : RH (B.hide p) ρ h (L2.upd H p o) := by
  refine ⟨r.len, r.nd, fun k c a h1 h2 => (r.cell k c a h1 h2).move (B' := B.hide p) alike_re rehide_at (L2.upd_ne (b := a) (a := p) fun z => r.hidden (z ▸ List.mem_of_getElem? h2)), Tabs.set r.tabs hp n fun b e => L2.upd_ne e, fun a ha => ?_, r.xc.move (B' := B.hide p) alike_re rehide_at⟩
  obtain ⟨h1, u, h2, h3⟩ := r.hid a ha
  by_cases e : a = p
  · exact ⟨h1, o, by rw [e, L2.upd_same], no⟩
  · exact ⟨h1, u, by rw [L2.upd_ne e]; exact h2, h3⟩
theorem RH.drop {o2 : HO} (r : RH (B.hide p) ρ h H) (hn : p ∉ B.hid) (hp : H p = some o2) (n : NoTab o2) : RH B ρ h (rm H p) := by
  refine ⟨r.len, r.nd, fun k c a h1 h2 => (r.cell k c a h1 h2).move (B' := B) alike_drop drop_at (rm_ne (b := a) (a := p) fun z => r.hidden (z ▸ List.mem_of_getElem? h2)), Tabs.set r.tabs hp n fun b e => rm_ne e, fun a ha => ?_, r.xc.move (B' := B) alike_drop drop_at⟩
  obtain ⟨h1, u, h2, h3⟩ := r.hid a (List.mem_cons_of_mem _ ha)
  exact ⟨h1, u, by rw [rm_ne (b := a) (a := p) fun z => hn (by rw [← z]; exact ha)]; exact h2, h3⟩
/-- from a heap without p to one where p is in the making -/
structure Thru (B : Bs) (p : Addr) (ρ : List Addr) (H : Hp) (ρ' : List Addr) (H' : Hp) : Prop where
  no : H p = none
  st : Step B ρ H ρ' (rm H' p)
theorem Thru.start (hp : H p = none) : Thru B p ρ H ρ (L2.upd H p o) := ⟨hp, by
  rw [rm_upd]
  have e : rm H p = H := by
    funext b
    unfold rm
    split
    · rename_i e
      rw [e, hp]
    · rfl
  rw [e]
  exact .refl⟩
theorem Thru.step {ρ' ρ2 : List Addr} {H' H2 : Hp} {o2 : HO} (t : Thru B p ρ H ρ' H') (s : Step B ρ' H' ρ2 H2) (h2 : H2 p = some o2) (n : NoTab o2) : Thru B p ρ H ρ2 H2 := by
  refine ⟨t.no, t.st.pre.trans s.pre, fun a u hn hu ha => ?_, fun a ha => ?_, fun a ha => ?_, fun q => ?_⟩
  · have ne : a ≠ p := fun z => by rw [z, t.no] at ha; cases ha
    have e1 := t.st.keep a u hn hu ha
    rw [rm_ne ne] at e1
    rw [rm_ne ne]
    exact s.keep a u (t.st.out (.inl ha) hn) hu e1
  · rcases s.new a ha with z | z
    · exact t.st.new a z
    · by_cases e : H a = none
      · exact .inr e
      · refine absurd ?_ (t.st.live a e)
        by_cases e2 : a = p
        · rw [e2, rm_same]
        · rw [rm_ne e2, z]
  · have ne : a ≠ p := fun z => ha (z ▸ t.no)
    rw [rm_ne ne]
    refine s.live a ?_
    have q := t.st.live a ha
    rw [rm_ne ne] at q
    exact q
  · have q1 := t.st.tabs q
    have q2 : LamX.Tabs B.T.tabs H' := fun c hc => by
      obtain ⟨ps, e1, e2, e3⟩ := q1 c hc
      have ne : c.1 ≠ p := fun z => by rw [z, rm_same] at e1; cases e1
      rw [rm_ne ne] at e1
      refine ⟨ps, e1, e2, fun pos cv ec => ?_⟩
      obtain ⟨c', f1, f2⟩ := e3 pos cv ec
      have ne2 : c' ≠ p := fun z => by rw [z, rm_same] at f2; cases f2
      rw [rm_ne ne2] at f2
      exact ⟨c', f1, f2⟩
    exact Tabs.set (s.tabs q2) h2 n fun b e => rm_ne e
theorem Thru.put {ρ' : List Addr} {H' : Hp} {o' : HO} (t : Thru B p ρ H ρ' H') : Thru B p ρ H ρ' (L2.upd H' p o') := ⟨t.no, by rw [rm_upd]; exact t.st⟩
end
end HS
namespace HS
open PySem PySem.Spec PyProof.Rows
section
variable {B : Bs} {ρ ρ' ρ0 ρ1 : List Addr} {H H' H0 H1 : Hp} {h h1 : Hv} {p : Addr} {o : HO} {hd : List Addr}
theorem bare_at : ∀ a, Out (B.hide p) ρ a → H a ≠ none → H a = H a ∧ Out B ρ a := fun a n _ => ⟨rfl, n.1, fun z => n.2 (List.mem_cons_of_mem _ z)⟩
theorem RV.bare {x : V} {v : PV} (r : RV (B.hide p) ρ H x v) : RV B ρ H x v := r.move (B' := B) alike_drop bare_at
theorem RH.bare (r : RH (B.hide p) ρ h H) : RH B ρ h H :=
  ⟨r.len, r.nd, fun k c a h1 h2 => (r.cell k c a h1 h2).move (B' := B) alike_drop bare_at rfl, r.tabs, fun a ha => r.hid a (List.mem_cons_of_mem _ ha), r.xc.move (B' := B) alike_drop bare_at⟩
theorem RX.bare {cls : Value} {d : Option Addr} {e : PV} (r : RX (B.hide p) ρ H cls d e) : RX B ρ H cls d e := by
  obtain ⟨c, fs, C, dx, xs, h1, h2, h3, h4, h5, h6⟩ := r
  exact ⟨c, fs, C, dx, xs, h1, h2, h3, h4, ⟨h5.1, h5.2.1, fun z => h5.2.2 (List.mem_cons_of_mem _ z)⟩, fun f v e => let ⟨x, a, b⟩ := h6 f v e; ⟨x, a, b.bare⟩⟩
theorem Thru.bare (t : Thru B p ρ H ρ' H') : Step B ρ H ρ' H' := by
  have ne : ∀ a, H a ≠ none → a ≠ p := fun a e z => e (z ▸ t.no)
  refine ⟨t.st.pre, fun a u hn hu e => ?_, t.st.new, fun a e => ?_, fun q => ?_⟩
  · have q := t.st.keep a u hn hu e
    rw [rm_ne (ne a (by rw [e]; exact fun z => nomatch z))] at q
    exact q
  · have q := t.st.live a e
    rw [rm_ne (ne a e)] at q
    exact q
  · intro c hc
    obtain ⟨ps, e1, e2, e3⟩ := t.st.tabs q c hc
    have n1 : c.1 ≠ p := fun z => by rw [z, rm_same] at e1; cases e1
    rw [rm_ne n1] at e1
    refine ⟨ps, e1, e2, fun pos cv ec => ?_⟩
    obtain ⟨c', f1, f2⟩ := e3 pos cv ec
    have n2 : c' ≠ p := fun z => by rw [z, rm_same] at f2; cases f2
    rw [rm_ne n2] at f2
    exact ⟨c', f1, f2⟩
/-- a run while p is in the making, and what is to come -/
theorem PostR.bndH {α β γ δ : Type} {E : XK} {RA : List Addr → Hp → β → α → Prop} {RG : List Addr → Hp → δ → γ → Prop} {x : M α} {f : α → M γ} {Q : δ → Hp → Prop} (q : PostR B RG E ρ0 H0 ((x.bnd f) h1) Q) (t : Thru B p ρ0 H0 ρ1 H1) (hp : H1 p = some o) (n : NoTab o)
    (hR : RH (B.hide p) ρ1 h1 H1) : PostR (B.hide p) RA E ρ1 H1 (x h1) fun b H2 => ∃ ρ2 h2 a, Thru B p ρ0 H0 ρ2 H2 ∧ H2 p = some o ∧ Step (B.hide p) ρ1 H1 ρ2 H2 ∧ RH (B.hide p) ρ2 h2 H2 ∧ RA ρ2 H2 b a ∧ PostR B RG E ρ0 H0 (f a h2) Q := by
  have e : (x.bnd f) h1 = (match x h1 with
    | .ok a h' => f a h'
    | .exc e h' => .exc e h'
    | .stuck => .stuck) := rfl
  rw [e] at q
  have kp : ∀ {ρ2 : List Addr} {H2 : Hp}, Step (B.hide p) ρ1 H1 ρ2 H2 → H2 p = some o := fun s => s.keep p o hR.hidden n.1 hp
  have th : ∀ {ρ2 : List Addr} {H2 : Hp}, Step (B.hide p) ρ1 H1 ρ2 H2 → Thru B p ρ0 H0 ρ2 H2 := fun s => t.step ⟨s.pre, s.keep, s.new, s.live, s.tabs⟩ (kp s) n
  cases qx : x h1 with
  | ok a h' =>
    rw [qx] at q
    exact fun ρ2 H2 b s r ra => ⟨ρ2, h', a, th s, kp s, s, r, ra, q⟩
  | exc e h' =>
    rw [qx] at q
    exact fun ρ2 H2 cls d s r x => q ρ2 H2 cls d (th s).bare r.bare x.bare
  | stuck =>
    rw [qx] at q
    exact q
end
end HS
end
-- text EvLeaf2
section
set_option Elab.async false
set_option linter.all false
set_option maxRecDepth 100000

/-! More expressions: calls of built-ins, displays of dicts, methods, ranges as lists. -/
namespace HS
open PySem PySem.Spec PyProof.Rows
section
variable {X : L2.Cx} {T : Tx} {E : XK} {pos : Pos}
/-- one argument, then the call by values -/
theorem all1 {x : ES} {f : PV → M PV} {σ : L2.St} {H : Hp} {Q : L2.VK} (q : tEX X T E (eCall1 f x) σ H Q) : tAX X T E (eAll [x]) σ H fun xs H1 => rC1 (bsOf X T) E f xs H1 Q := by
  obtain ⟨hd, ρ, sg, h, rs, rh, p⟩ := q
  refine ⟨hd, ρ, sg, h, rs, rh, ?_⟩
  show PostVs (bW X T hd) E ρ H (((x sg).bnd fun y => M.ret [y]) h) _
  have p : PostV (bW X T hd) E ρ H (((x sg).bnd f) h) Q := p
  cases q : x sg h with
  | ok v h1 =>
    have e1 : ((x sg).bnd fun y => M.ret [y]) h = .ok [v] h1 := by unfold M.bnd M.ret; rw [q]
    have e2 : ((x sg).bnd f) h = f v h1 := by unfold M.bnd; rw [q]
    rw [e1]
    rw [e2] at p
    intro ρ1 H1 us s1 r1 rv
    cases rv with
    | cons rv rr =>
      cases rr
      exact ⟨_, rfl, hd, ρ1, h1, v, r1, rv, p.step s1⟩
  | exc e h1 =>
    have e1 : ((x sg).bnd fun y => M.ret [y]) h = .exc e h1 := by unfold M.bnd; rw [q]
    have e2 : ((x sg).bnd f) h = .exc e h1 := by unfold M.bnd; rw [q]
    rw [e1]
    rw [e2] at p
    exact p
  | stuck =>
    have e2 : ((x sg).bnd f) h = .stuck := by unfold M.bnd; rw [q]
    rw [e2] at p
    exact p.elim
theorem all2 {x y : ES} {f : PV → PV → M PV} {σ : L2.St} {H : Hp} {Q : L2.VK} (q : tEX X T E (eCall2 f x y) σ H Q) : tAX X T E (eAll [x, y]) σ H fun xs H1 => rC2 (bsOf X T) E f xs H1 Q := by
  obtain ⟨hd, ρ, sg, h, rs, rh, p⟩ := q
  refine ⟨hd, ρ, sg, h, rs, rh, ?_⟩
  have p : PostV (bW X T hd) E ρ H (((x sg).bnd fun v => (y sg).bnd fun w => f v w) h) Q := p
  show PostVs (bW X T hd) E ρ H (((x sg).bnd fun v => ((y sg).bnd fun w => M.ret [w]).bnd fun ws => M.ret (v :: ws)) h) _
  cases q : x sg h with
  | ok v h1 =>
    have e1 : ((x sg).bnd fun v => ((y sg).bnd fun w => M.ret [w]).bnd fun ws => M.ret (v :: ws)) h = (((y sg).bnd fun w => M.ret [w]).bnd fun ws => M.ret (v :: ws)) h1 := by unfold M.bnd M.ret; rw [q]
    have e2 : ((x sg).bnd fun v => (y sg).bnd fun w => f v w) h = ((y sg).bnd fun w => f v w) h1 := by unfold M.bnd; rw [q]
    rw [e1]
    rw [e2] at p
    cases q2 : y sg h1 with
    | ok w h2 =>
      have e1 : (((y sg).bnd fun w => M.ret [w]).bnd fun ws => M.ret (v :: ws)) h1 = .ok [v, w] h2 := by unfold M.bnd M.ret; rw [q2]
      have e2 : ((y sg).bnd fun w => f v w) h1 = f v w h2 := by unfold M.bnd; rw [q2]
      rw [e1]
      rw [e2] at p
      intro ρ1 H1 us s1 r1 rv
      cases rv with
      | cons rv rr =>
        cases rr with
        | cons rw' rr =>
          cases rr
          exact ⟨_, _, rfl, hd, ρ1, h2, v, w, r1, rv, rw', p.step s1⟩
    | exc e h2 =>
      have e1 : (((y sg).bnd fun w => M.ret [w]).bnd fun ws => M.ret (v :: ws)) h1 = .exc e h2 := by unfold M.bnd M.ret; rw [q2]
      have e2 : ((y sg).bnd fun w => f v w) h1 = .exc e h2 := by unfold M.bnd; rw [q2]
      rw [e1]
      rw [e2] at p
      exact p
    | stuck =>
      have e2 : ((y sg).bnd fun w => f v w) h1 = .stuck := by unfold M.bnd; rw [q2]
      rw [e2] at p
      exact p.elim
  | exc e h1 =>
    have e1 : ((x sg).bnd fun v => ((y sg).bnd fun w => M.ret [w]).bnd fun ws => M.ret (v :: ws)) h = .exc e h1 := by unfold M.bnd; rw [q]
    have e2 : ((x sg).bnd fun v => (y sg).bnd fun w => f v w) h = .exc e h1 := by unfold M.bnd; rw [q]
    rw [e1]
    rw [e2] at p
    exact p
  | stuck =>
    have e2 : ((x sg).bnd fun v => (y sg).bnd fun w => f v w) h = .stuck := by unfold M.bnd; rw [q]
    rw [e2] at p
    exact p.elim
/-- what is seen of a built-in's name -/
structure BltN (X : L2.Cx) (g : Str) (v : Value) : Prop where
  gl : L2.Gl X g
  mg : X.mg g = none
  bt : bootBuiltins g = some v
  nn : g ≠ "__name__"
  nd : (g == ("__debug__" : Str)) = false
/-- a call by values, whatever holds the name -/
def CallV (X : L2.Cx) (v : Value) (r : List V → Hp → L2.VK → Prop) : Prop := (∃ id, v = .builtin id ∧ L2.CallR X (.builtin id) r) ∨ ∃ n, v = .type n ∧ L2.CallR X (.type n) r
theorem call_bn {g : Str} {p : Pos} {v : Value} {r : List V → Hp → L2.VK → Prop} {e : Expr} {es : List Expr} {t : L2.TA} (c : CallV X v r) (b : BltN X g v) (ha : L2.PA X (e :: es) t) (hs : (e :: es).any isStar = false) : L2.PE X (.Call (.Name g p) (e :: es) [] pos) (L2.tCB r t) := by
  rw [List.any_cons, Bool.or_eq_false_iff] at hs
  rcases c with ⟨id, rfl, c⟩ | ⟨n, rfl, c⟩
  · exact L2.pe_callB c b.gl b.mg b.bt ha b.nn b.nd (star_cons hs.1) (star_any hs.2)
  · exact L2.pe_callTy c b.gl b.mg b.bt ha b.nn b.nd (star_cons hs.1) (star_any hs.2)
theorem e_c1 {a : Expr} {x : ES} {f : PV → M PV} {g : Str} {p : Pos} {v : Value} (c : CallV X v (rC1 (bsOf X T) E f)) (b : BltN X g v) (ha : L2.PE X a (tEX X T E x)) (hs : isStar a = false) : L2.PE X (.Call (.Name g p) [a] [] pos) (tEX X T E (eCall1 f x)) := by
  have h1 : [a].any isStar = false := by rw [List.any_cons, hs]; rfl
  exact PE.imp (call_bn c b (a_all (.cons ha .nil) h1) h1) fun σ H Q q => all1 q
theorem e_c2 {a a2 : Expr} {x y : ES} {f : PV → PV → M PV} {g : Str} {p : Pos} {v : Value} (c : CallV X v (rC2 (bsOf X T) E f)) (b : BltN X g v) (ha : L2.PE X a (tEX X T E x)) (hb : L2.PE X a2 (tEX X T E y)) (hs : [a, a2].any isStar = false) : L2.PE X (.Call (.Name g p) [a, a2] [] pos) (tEX X T E (eCall2 f x y)) :=
  PE.imp (call_bn c b (a_all (.cons ha (.cons hb .nil)) hs) hs) fun σ H Q q => all2 q
/-- the built-ins that are told -/
def blts : List Str := ["len", "all", "any", "tuple", "list", "sorted", "set", "int", "str", "repr", "max", "min", "isinstance", "range", "enumerate", "zip", "bool", "dict", "sum"]
theorem finK {m : Bool} {hd : List Addr} {ρ : List Addr} {H : Hp} {h : Hv} {Q : L2.VK} {vs : List (Key × PV)} {xs : List (Key × V)} {p : Addr} (q : PostV (bW X T hd) E ρ H (mkK m vs h) Q) (rh : RH (bW X T hd) ρ h H) (rs : RKs (bW X T hd) ρ H xs vs) (hp : H p = none) : Q (.ref p) (L2.upd H p (.dK xs)) := by
  unfold mkK at q
  by_cases hz : vs.length ≤ sizeLine
  · rw [if_pos hz] at q
    cases m with
    | true =>
      have s : Step (bW X T hd) ρ H (ρ ++ [p]) (L2.upd H p (.dK xs)) := Step.cell hp
      refine q _ _ _ s (rh.alloc hp ⟨xs, L2.upd_same, rs.step s⟩) (.ref ?_)
      rw [← rh.len, List.getElem?_append_right (Nat.le_refl _)]
      simp
    | false =>
      have s : Step (bW X T hd) ρ H ρ (L2.upd H p (.dK xs)) := Step.laid hp
      exact q _ _ _ s (rh.laid hp) (.dK ⟨.inl L2.upd_same, rh.fresh hp⟩ (rs.step s))
  · rw [if_neg hz] at q
    exact q.elim
theorem RKs.fold {B : Bs} {ρ : List Addr} {H : Hp} : ∀ {xs : List (Key × V)} {vs : List (Key × PV)} {a : List (Key × V)} {b : List (Key × PV)}, RKs B ρ H xs vs → RKs B ρ H a b → RKs B ρ H (L2.mergeK a xs) (vs.foldl (fun acc kv => putOf acc kv.1 kv.2) b)
  | _, _, _, _, .nil, q => q
  | _, _, _, _, .cons (k := k) h t, q => by
    have z := RKs.fold t (q.put (k := k) h)
    exact z
theorem RVs.prs {ρ : List Addr} {H : Hp} {hd : List Addr} : ∀ {ys : List V} {vs : List PV} {kvs : List (Key × PV)}, RVs (bW X T hd) ρ H ys vs → pairsOf vs = some kvs → ∃ (ps : List Addr) (qs : List (Key × V)), ys = ps.map L2.V.ref ∧ PySem.Paired (fun p kv => L2.SqT X.K H p [L2.kV kv.1, kv.2]) ps qs ∧ RKs (bW X T hd) ρ H qs kvs
  | _, _, _, .nil, e => by
    cases e
    exact ⟨[], [], rfl, .nil, .nil⟩
  | _, _, _, .cons (v := v) (vs := vs) h r, e => by
    unfold pairsOf at e
    cases e1 : pairOf v with
    | none => rw [e1] at e; cases e
    | some p =>
      cases e2 : pairsOf vs with
      | none => rw [e1, e2] at e; cases e
      | some ps =>
        rw [e1, e2] at e
        cases e
        obtain ⟨as, qs, rfl, h2, h3⟩ := RVs.prs r e2
        unfold pairOf at e1
        split at e1
        · rename_i k u
          obtain ⟨c, e3, e4⟩ := Option.map_eq_some_iff.mp e1
          cases e4
          obtain ⟨a, xs, rfl, h4, h5⟩ := rv_tup h
          cases h5 with
          | cons g1 g2 =>
            cases g2 with
            | cons g3 g4 =>
              cases g4
              obtain rfl := keyOf_rv g1 e3
              exact ⟨a :: as, (c, _) :: qs, rfl, .cons h4 h2, .cons g3 h3⟩
        · cases e1
theorem c_dict {m : Bool} (hc : X.calm = true) : L2.CallR X (.type "dict") (rC1 (bsOf X T) E (bDict m)) := by
  intro pins s σ H xs us Q I r ⟨x, ex, hd, ρ, h, pv, rh, r1, p⟩
  subst ex
  dsimp only [bDict] at p
  split at p
  · rename_i kvs e
    obtain ⟨vs, e1, e2⟩ := Option.bind_eq_some_iff.mp e
    obtain ⟨a, ys, rfl, hl, rs⟩ := lst_at rh r1 e1
    obtain ⟨ps, qs, rfl, h2, h3⟩ := rs.prs e2
    exact L2.call_dictP hc pins s σ H _ us Q I r ⟨a, ps, qs, rfl, .inl (.inl hl), h2, fun q hq => finK p rh (RKs.fold h3 .nil) hq⟩
  · exact p.elim
/-- the built-ins of one argument -/
theorem b1_ok {m : Bool} {f : Str} {g : PV → M PV} (hc : X.calm = true ∨ (f == "len" || f == "tuple" || f == "int" || f == "str" || f == "repr") = true) (hu : X.A.units + 200 < cLine) (hg : X.A.guards = some [] ∨ (f != "repr") = true) (e : b1D m f = some g) :
    ∃ v, bootBuiltins f = some v ∧ f ≠ "__name__" ∧ (f == ("__debug__" : Str)) = false ∧ f ∈ blts ∧ CallV X v (rC1 (bsOf X T) E g) := by
  have hc' : ∀ b, ((f == "len" || f == "tuple" || f == "int" || f == "str" || f == "repr") = b) → b = false → X.calm = true := fun b e z => by
    rcases hc with hc | hc
    · exact hc
    · rw [e, z] at hc
      cases hc
  have hg' : ∀ b, (f != "repr") = b → b = false → X.A.guards = some [] := fun b e z => by
    rcases hg with hg | hg
    · exact hg
    · rw [e, z] at hg
      cases hg
  unfold b1D at e
  by_cases h : f = "len"
  · rw [if_pos h] at e; cases e; subst h; exact ⟨.builtin "len", by decide +kernel, by decide +kernel, by decide +kernel, by decide +kernel, .inl ⟨_, rfl, c_len⟩⟩
  rw [if_neg h] at e; clear h
  by_cases h : f = "all"
  · rw [if_pos h] at e; cases e; subst h; exact ⟨.builtin "all", by decide +kernel, by decide +kernel, by decide +kernel, by decide +kernel, .inl ⟨_, rfl, c_all (hc' _ rfl (by decide +kernel))⟩⟩
  rw [if_neg h] at e; clear h
  by_cases h : f = "any"
  · rw [if_pos h] at e; cases e; subst h; exact ⟨.builtin "any", by decide +kernel, by decide +kernel, by decide +kernel, by decide +kernel, .inl ⟨_, rfl, c_any (hc' _ rfl (by decide +kernel))⟩⟩
  rw [if_neg h] at e; clear h
  by_cases h : f = "tuple"
  · rw [if_pos h] at e; cases e; subst h; exact ⟨.type "tuple", by decide +kernel, by decide +kernel, by decide +kernel, by decide +kernel, .inr ⟨_, rfl, c_tuple⟩⟩
  rw [if_neg h] at e; clear h
  by_cases h : f = "list"
  · rw [if_pos h] at e; cases e; subst h; exact ⟨.type "list", by decide +kernel, by decide +kernel, by decide +kernel, by decide +kernel, .inr ⟨_, rfl, c_list (hc' _ rfl (by decide +kernel))⟩⟩
  rw [if_neg h] at e; clear h
  by_cases h : f = "sorted"
  · rw [if_pos h] at e; cases e; subst h; exact ⟨.builtin "sorted", by decide +kernel, by decide +kernel, by decide +kernel, by decide +kernel, .inl ⟨_, rfl, c_sorted (hc' _ rfl (by decide +kernel)) hu⟩⟩
  rw [if_neg h] at e; clear h
  by_cases h : f = "set"
  · rw [if_pos h] at e; cases e; subst h; exact ⟨.type "set", by decide +kernel, by decide +kernel, by decide +kernel, by decide +kernel, .inr ⟨_, rfl, c_set (hc' _ rfl (by decide +kernel))⟩⟩
  rw [if_neg h] at e; clear h
  by_cases h : f = "int"
  · rw [if_pos h] at e; cases e; subst h; exact ⟨.type "int", by decide +kernel, by decide +kernel, by decide +kernel, by decide +kernel, .inr ⟨_, rfl, c_int⟩⟩
  rw [if_neg h] at e; clear h
  by_cases h : f = "str"
  · rw [if_pos h] at e; cases e; subst h; exact ⟨.type "str", by decide +kernel, by decide +kernel, by decide +kernel, by decide +kernel, .inr ⟨_, rfl, c_str⟩⟩
  rw [if_neg h] at e; clear h
  by_cases h : f = "repr"
  · rw [if_pos h] at e; cases e; subst h; exact ⟨.builtin "repr", by decide +kernel, by decide +kernel, by decide +kernel, by decide +kernel, .inl ⟨_, rfl, c_repr (hg' _ rfl (by decide +kernel)) hu⟩⟩
  rw [if_neg h] at e; clear h
  by_cases h : f = "dict"
  · rw [if_pos h] at e; cases e; subst h; exact ⟨.type "dict", by decide +kernel, by decide +kernel, by decide +kernel, by decide +kernel, .inr ⟨_, rfl, c_dict (hc' _ rfl (by decide +kernel))⟩⟩
  rw [if_neg h] at e; clear h
  cases e
theorem b2_ok {f : Str} {g : PV → PV → M PV} (hc : X.calm = true) (e : b2D f = some g) : ∃ v, bootBuiltins f = some v ∧ f ≠ "__name__" ∧ (f == ("__debug__" : Str)) = false ∧ f ∈ blts ∧ CallV X v (rC2 (bsOf X T) E g) := by
  unfold b2D at e
  by_cases h : f = "max"
  · rw [if_pos h] at e; cases e; subst h; exact ⟨.builtin "max", by decide +kernel, by decide +kernel, by decide +kernel, by decide +kernel, .inl ⟨_, rfl, c_max2 hc⟩⟩
  rw [if_neg h] at e; clear h
  by_cases h : f = "min"
  · rw [if_pos h] at e; cases e; subst h; exact ⟨.builtin "min", by decide +kernel, by decide +kernel, by decide +kernel, by decide +kernel, .inl ⟨_, rfl, c_min2 hc⟩⟩
  rw [if_neg h] at e; clear h
  cases e
/-- isinstance(a, c) -/
theorem isi_ok {c : Str} {t : String} (e : isiD c = some t) : bootBuiltins c = some (.type t) ∧ t ∈ ["int", "bool", "tuple", "str", "list", "dict"] ∧ c ≠ "__name__" ∧ (c == ("__debug__" : Str)) = false ∧ c ∈ blts := by
  unfold isiD at e
  by_cases h : c = "int"
  · rw [if_pos h] at e; cases e; subst h; exact ⟨by decide +kernel, by decide +kernel, by decide +kernel, by decide +kernel, by decide +kernel⟩
  rw [if_neg h] at e; clear h
  by_cases h : c = "bool"
  · rw [if_pos h] at e; cases e; subst h; exact ⟨by decide +kernel, by decide +kernel, by decide +kernel, by decide +kernel, by decide +kernel⟩
  rw [if_neg h] at e; clear h
  by_cases h : c = "tuple"
  · rw [if_pos h] at e; cases e; subst h; exact ⟨by decide +kernel, by decide +kernel, by decide +kernel, by decide +kernel, by decide +kernel⟩
  rw [if_neg h] at e; clear h
  by_cases h : c = "str"
  · rw [if_pos h] at e; cases e; subst h; exact ⟨by decide +kernel, by decide +kernel, by decide +kernel, by decide +kernel, by decide +kernel⟩
  rw [if_neg h] at e; clear h
  by_cases h : c = "list"
  · rw [if_pos h] at e; cases e; subst h; exact ⟨by decide +kernel, by decide +kernel, by decide +kernel, by decide +kernel, by decide +kernel⟩
  rw [if_neg h] at e; clear h
  by_cases h : c = "dict"
  · rw [if_pos h] at e; cases e; subst h; exact ⟨by decide +kernel, by decide +kernel, by decide +kernel, by decide +kernel, by decide +kernel⟩
  rw [if_neg h] at e
  cases e
theorem isi_blt : bootBuiltins "isinstance" = some (.builtin "isinstance") := by decide +kernel
theorem e_isi {a : Expr} {x : ES} {c : Str} {t : String} {p p2 : Pos} (e : isiD c = some t) (hg : L2.Gl X "isinstance") (hm : X.mg "isinstance" = none) (gc : L2.Gl X c) (mc : X.mg c = none) (ha : L2.PE X a (tEX X T E x)) (hs : isStar a = false) :
    L2.PE X (.Call (.Name "isinstance" p) [a, .Name c p2] [] pos) (tEX X T E (eCall1 (bIsi t) x)) := by
  obtain ⟨e1, e2, e3, e4, _⟩ := isi_ok e
  have h1 : [a, Expr.Name c p2].any isStar = false := by rw [List.any_cons, hs]; rfl
  have hc : L2.CallR X (.builtin "isinstance") (fun xs H Q => ∃ x, xs = [x, .ty t] ∧ rUn (bsOf X T) E (bIsi t) x H Q) := by
    intro pins s σ H xs us Q I r ⟨x, ex, q⟩
    subst ex
    cases r with
    | cons r1 rr =>
      cases rr with
      | cons r2 rr =>
        cases rr
        cases r2
        exact c_isi e2 pins s σ H x _ Q I r1 q
  refine PE.imp (L2.pe_callB hc hg hm isi_blt (L2.pa_cons ha (L2.pa_cons (L2.pe_bltn (v := .ty t) gc mc e1 rfl e3 e4) L2.pa_nil (star_cons rfl)) (star_cons hs)) (by decide +kernel) (by decide +kernel) (star_cons hs) rfl) fun σ H Q q => ?_
  obtain ⟨hd, ρ, sg, h, rs, rh, p⟩ := q
  exact ⟨hd, ρ, sg, h, rs, rh, p.bnd.mono fun x H1 ⟨ρ1, h1, v, s1, r1, rv, p1⟩ => ⟨x, rfl, hd, ρ1, h1, v, r1, rv, p1⟩⟩
/-! ### ranges as lists -/
theorem rg_boot : bootBuiltins "range" = some (.type "range") := by decide +kernel
theorem rgP_rg {hd : List Addr} {ρ : List Addr} {H : Hp} (lo hi : Int) : RVs (bW X T hd) ρ H (L2.rgV lo hi) (rgP lo hi) := by
  unfold L2.rgV rgP
  generalize List.range (hi - lo).toNat = l
  induction l with
  | nil => exact .nil
  | cons x xs ih => exact .cons (by first | exact .int _ | (rw [Int.mul_one]; exact .int _)) ih
theorem rgP_len (lo hi : Int) : (rgP lo hi).length = (hi - lo).toNat := by unfold rgP; rw [List.length_map, List.length_range]
theorem rgok {n : Int} (h : -(2 ^ 62) ≤ n ∧ n ≤ 16777216) : L2.RgOk 0 n := by
  unfold L2.RgOk
  refine ⟨by omega, by omega, by omega, by omega, by omega⟩
theorem e_tupRg {a : Expr} {x : ES} {p p2 p3 : Pos} (hc : X.calm = true) (gt : L2.Gl X "tuple") (mt : X.mg "tuple" = none) (gr : L2.Gl X "range") (mr : X.mg "range" = none) (ha : L2.PE X a (tEX X T E x)) (hs : isStar a = false) :
    L2.PE X (.Call (.Name "tuple" p) [.Call (.Name "range" p2) [a] [] p3] [] pos) (tEX X T E (eCall1 bTupRg x)) :=
  PE.imp (L2.pe_tupRg hc gt mt (L2.prg_1 gr mr ha (star_cons hs))) fun σ H Q ⟨hd, ρ, sg, h, rs, rh, p⟩ => ⟨hd, ρ, sg, h, rs, rh, p.bnd.mono fun x H1 ⟨ρ1, h1, v, s1, r1, rv, p1⟩ => by
    dsimp only [bTupRg] at p1
    split at p1
    · obtain rfl := rv_int rv
      split at p1
      · rename_i hz
        exact ⟨_, rfl, rgok hz, fun q hq => finT p1 r1 (rgP_rg _ _) hq⟩
      · exact p1.elim
    · exact p1.elim⟩
theorem e_lstRg {m : Bool} {a : Expr} {x : ES} {p p2 p3 : Pos} (hc : X.calm = true) (gt : L2.Gl X "list") (mt : X.mg "list" = none) (gr : L2.Gl X "range") (mr : X.mg "range" = none) (ha : L2.PE X a (tEX X T E x)) (hs : isStar a = false) :
    L2.PE X (.Call (.Name "list" p) [.Call (.Name "range" p2) [a] [] p3] [] pos) (tEX X T E (eCall1 (bLstRg m) x)) :=
  PE.imp (L2.pe_listRg hc gt mt (L2.prg_1 gr mr ha (star_cons hs))) fun σ H Q ⟨hd, ρ, sg, h, rs, rh, p⟩ => ⟨hd, ρ, sg, h, rs, rh, p.bnd.mono fun x H1 ⟨ρ1, h1, v, s1, r1, rv, p1⟩ => by
    dsimp only [bLstRg] at p1
    split at p1
    · obtain rfl := rv_int rv
      split at p1
      · rename_i hz
        exact ⟨_, rfl, rgok hz, fun q hq => finL p1 r1 (rgP_rg _ _) hq⟩
      · exact p1.elim
    · exact p1.elim⟩
/-! ### dicts -/
theorem e_dnew {m : Bool} : L2.PE X (.Dict [] [] pos) (tEX X T E fun _ => mkK m []) :=
  PE.imp L2.pe_dnewK fun σ H Q ⟨hd, ρ, sg, h, rs, rh, p⟩ => fun q hq => finK p rh .nil hq
/-- the pairs, each told -/
inductive EachP (X : L2.Cx) (T : Tx) (E : XK) : List (Option Expr) → List Expr → List (ES × ES) → Prop
  | nil : EachP X T E [] [] []
  | cons {k v : Expr} {f g : ES} {ks : List (Option Expr)} {vs : List Expr} {fs : List (ES × ES)} : L2.PE X k (tEX X T E f) → L2.PE X v (tEX X T E g) → EachP X T E ks vs fs → EachP X T E (some k :: ks) (v :: vs) ((f, g) :: fs)
theorem pps_of {pp : Pos} : ∀ {ks : List (Option Expr)} {vs : List Expr} {fs : List (ES × ES)}, EachP X T E ks vs fs → L2.PPs X pp ks vs (fs.map fun p => (tEX X T E p.1, tEX X T E p.2))
  | _, _, _, .nil => L2.pps_nil
  | _, _, _, .cons h1 h2 t => L2.pps_cons h1 h2 (pps_of t)
theorem EachP.facts : ∀ {ks : List (Option Expr)} {vs : List Expr} {fs : List (ES × ES)}, EachP X T E ks vs fs → ks.all (·.isSome) = true ∧ ks.length = vs.length ∧ ks.length = fs.length
  | _, _, _, .nil => ⟨rfl, rfl, rfl⟩
  | _, _, _, .cons _ _ t => ⟨by rw [List.all_cons, (EachP.facts t).1]; rfl, congrArg (· + 1) (EachP.facts t).2.1, congrArg (· + 1) (EachP.facts t).2.2⟩
theorem RKs.snoc {B : Bs} {ρ : List Addr} {H : Hp} {k : Key} {y : V} {v : PV} (r : RV B ρ H y v) : ∀ {xs : List (Key × V)} {vs : List (Key × PV)}, RKs B ρ H xs vs → RKs B ρ H (xs ++ [(k, y)]) (vs ++ [(k, v)])
  | _, _, .nil => .cons r .nil
  | _, _, .cons h t => .cons h (RKs.snoc r t)
theorem keyM {α β : Type} {RA : List Addr → Hp → β → α → Prop} {hd : List Addr} {ρ : List Addr} {H : Hp} {h : Hv} {pv : PV} {f : Key → M α} {Q : β → Hp → Prop} (p : PostR (bW X T hd) RA E ρ H ((match (generalizing := false) keyOf pv with
    | some c => f c
    | none => M.stk : M α) h) Q) : ∃ c, keyOf pv = some c ∧ PostR (bW X T hd) RA E ρ H (f c h) Q := by
  cases e : keyOf pv with
  | some c =>
    rw [e] at p
    exact ⟨c, rfl, p⟩
  | none =>
    rw [e] at p
    exact p.elim
theorem pairs_mono {σ : L2.St} : ∀ {fs : List (ES × ES)} {H : Hp} {Q Q' : List (V × V) → Hp → Prop}, L2.tPairs (fs.map fun p => (tEX X T E p.1, tEX X T E p.2)) σ H Q → (∀ ps H', Q ps H' → Q' ps H') → L2.tPairs (fs.map fun p => (tEX X T E p.1, tEX X T E p.2)) σ H Q'
  | [], H, Q, Q', q, i => i _ _ q
  | (f, g) :: fs, H, Q, Q', q, i => tE.mono q fun x H1 q1 => tE.mono q1 fun y H2 q2 => pairs_mono q2 fun ps H3 q3 => i _ _ q3
theorem disp_in {m : Bool} {hd : List Addr} {ρ0 : List Addr} {H0 : Hp} {p : Addr} {sg : Sg} {σ : L2.St} {Q : L2.VK} {n : Nat} : ∀ (fs : List (ES × ES)) (acc : List (Key × PV)) (kvs : List (Key × V)) (ρ : List Addr) (H : Hp) (h : Hv), Thru (bW X T hd) p ρ0 H0 ρ H → H p = some (.dK []) → RS (bW X T (p :: hd)) ρ H sg σ → RH (bW X T (p :: hd)) ρ h H →
    RKs (bW X T (p :: hd)) ρ H kvs acc → p ∉ hd → kvs.length + fs.length ≤ n → PostV (bW X T hd) E ρ0 H0 (eDisp m fs sg acc h) Q →
    L2.tPairs (fs.map fun p => (tEX X T E p.1, tEX X T E p.2)) σ H fun ps H2 => H2 p = some (.dK []) ∧ ∃ more : List (Key × V), ps = more.map (fun kv => (L2.kV kv.1, kv.2)) ∧ kvs.length + more.length ≤ n ∧ Q (.ref p) (L2.upd H2 p (.dK (L2.mergeK [] (kvs ++ more))))
  | [], acc, kvs, ρ, H, h, t, hp, rs, rh, rk, hn, hl, q => by
    refine ⟨hp, [], rfl, by simpa using hl, ?_⟩
    have q1 : PostV (bW X T hd) E ρ (rm H p) (mkK m (pairUp acc) h) Q := PostR.step q t.st
    rw [List.append_nil, ← upd_rm (o := .dK _)]
    refine finK q1 (RH.drop (B := bW X T hd) rh hn hp noTab_dK) (RKs.dropH (B := bW X T hd) (RKs.fold rk .nil)) rm_same
  | (f, g) :: fs, acc, kvs, ρ, H, h, t, hp, rs, rh, rk, hn, hl, q => by
    have q1 : PostR (bW X T hd) (RV (bW X T hd)) E ρ0 H0 (((f sg).bnd fun x => match keyOf x with
      | some c => (g sg).bnd fun y => eDisp m fs sg (acc ++ [(c, y)])
      | none => M.stk) h) Q := q
    refine ⟨p :: hd, ρ, sg, h, rs, rh, (PostR.bndH (B := bW X T hd) (RA := RV (bW X T (p :: hd))) q1 t hp noTab_dK rh).mono fun x H1 ⟨ρ1, h1, v, t1, hp1, s1, r1, rv, q2⟩ => ?_⟩
    obtain ⟨c, ec, q3⟩ := keyM q2
    obtain rfl := keyOf_rv rv ec
    refine ⟨p :: hd, ρ1, sg, h1, rs.step s1, r1, (PostR.bndH (B := bW X T hd) (RA := RV (bW X T (p :: hd))) q3 t1 hp1 noTab_dK r1).mono fun y H2 ⟨ρ2, h2, w, t2, hp2, s2, r2, rw', q4⟩ => ?_⟩
    have ih := disp_in (n := n) fs (acc ++ [(c, w)]) (kvs ++ [(c, y)]) ρ2 H2 h2 t2 hp2 (rs.step (s1.trans s2)) r2 ((rk.step (s1.trans s2)).snoc rw') hn (by rw [List.length_append]; simp only [List.length_cons, List.length_nil] at hl ⊢; omega) q4
    refine pairs_mono ih ?_
    rintro ps H3 ⟨e1, more, e2, e3, e4⟩
    refine ⟨e1, (c, y) :: more, by rw [List.map_cons, ← e2], by rw [List.length_append] at e3; simp only [List.length_cons, List.length_nil] at e3 ⊢; omega, ?_⟩
    rw [List.append_assoc] at e4
    exact e4
theorem e_disp {m : Bool} {ks : List (Option Expr)} {vs : List Expr} {fs : List (ES × ES)} (h : EachP X T E ks vs fs) (h0 : ks ≠ []) (h15 : ks.length ≤ 15) : L2.PE X (.Dict ks vs pos) (tEX X T E fun σ => eDisp m fs σ []) :=
  PE.imp (L2.pe_disp (pps_of h) h.facts.1 h.facts.2.1 h0 h15) fun σ H Q ⟨hd, ρ, sg, h', rs, rh, p⟩ => fun a ha => by
    have q := disp_in (n := 15) (m := m) (Q := Q) fs [] [] ρ _ h' (Thru.start (B := bW X T hd) (o := .dK []) ha) L2.upd_same (rs.hide ha) (rh.hide ha noTab_dK) .nil (rh.fresh ha).2 (by have := h.facts.2.2; simp only [List.length_nil]; omega) p
    refine pairs_mono q ?_
    rintro ps H3 ⟨e1, more, e2, e3, e4⟩
    exact ⟨e1, more, e2, by simpa using e3, e4⟩
/-! ### methods of lists -/
theorem meth_ok {f : Str} {g : PV → List PV → M PV} (e : methL f = some g) : ∃ id, Slot "list" f id ∧ typeOf (.builtin id) = pure (.type "method_descriptor") ∧ L2.MtR X id (rMt (bsOf X T) E g) := by
  unfold methL at e
  by_cases h : f = "append"
  · rw [if_pos h] at e; cases e; subst h; exact ⟨_, PySem.F.slot_list_append, PySem.F.type_list_append, m_append⟩
  rw [if_neg h] at e; clear h
  by_cases h : f = "pop"
  · rw [if_pos h] at e; cases e; subst h; exact ⟨_, PySem.F.slot_list_pop, PySem.F.type_list_pop, m_pop⟩
  rw [if_neg h] at e; clear h
  by_cases h : f = "extend"
  · rw [if_pos h] at e; cases e; subst h; exact ⟨_, PySem.F.slot_list_extend, PySem.F.type_list_extend, m_extend⟩
  rw [if_neg h] at e
  cases e
theorem meth_in {o : ES} {as : List ES} {g : PV → List PV → M PV} {σ : L2.St} {H : Hp} {Q : L2.VK} (q : tEX X T E (eMeth g o as) σ H Q) : tEX X T E o σ H fun x H1 => L2.tyV X.K "list" x H1 ∧ tAX X T E (eAll as) σ H1 fun xs H2 => rMt (bsOf X T) E g x xs H2 Q := by
  obtain ⟨hd, ρ, sg, h, rs, rh, p⟩ := q
  refine ⟨hd, ρ, sg, h, rs, rh, p.bnd.mono fun x H1 ⟨ρ1, h1, v, s1, r1, rv, p1⟩ => ?_⟩
  dsimp only at p1
  split at p1
  · rename_i kk e
    obtain ⟨k, ws⟩ := kk
    obtain ⟨a, ys, rfl, hk, e0, hl, rt⟩ := recv_at r1 rv e
    refine ⟨.inl ⟨rfl, _, .inl (.inl hl)⟩, hd, ρ1, sg, h1, rs.step s1, r1, p1.bnd.mono fun xs H2 ⟨ρ2, h2, vs, s2, r2, rvs, p2⟩ => ?_⟩
    exact ⟨hd, ρ2, h2, v, vs, r2, rv.step s2, rvs, p2⟩
  · exact p1.elim
theorem e_meth {o : Expr} {es : List Expr} {x : ES} {fs : List ES} {f : Str} {g : PV → List PV → M PV} {apos : Pos} (e : methL f = some g) (ho : L2.PE X o (tEX X T E x)) (hb : ∀ h p q, o ≠ .Call (.Name h p) [] [] q) (h : EachE X T E es fs) (hs : es.any isStar = false) (hn : es.length ≤ 20)
    (hl : (apos.endLine == pos.line) = true) : L2.PE X (.Call (.Attribute o f apos) es [] pos) (tEX X T E (eMeth g x fs)) := by
  obtain ⟨id, s1, s2, s3⟩ := meth_ok (X := X) (T := T) (E := E) e
  cases h with
  | nil =>
    refine PE.imp (L2.pe_bm0 PySem.F.plainAttrs_list s1 s2 s3 ho (plain_base hb) hl) fun σ H Q q => tE.mono (meth_in q) fun y H1 q1 => ⟨q1.1, ?_⟩
    obtain ⟨hd, ρ, sg, h, rs, rh, p⟩ := q1.2
    exact p.ret rh .nil
  | cons h1 t =>
    have hs' := hs
    rw [List.any_cons, Bool.or_eq_false_iff] at hs'
    refine PE.imp (L2.pe_bm PySem.F.plainAttrs_list s1 s2 s3 ho (a_all (.cons h1 t) hs) (plain_base hb) ?_ hl (star_cons hs'.1) (star_any hs'.2)) fun σ H Q q => meth_in q
    rw [Bool.and_eq_true, Bool.and_eq_true]
    refine ⟨⟨?_, rfl⟩, ?_⟩
    · have q := star_any (env := X.env) (pos := pos) hs
      rw [List.all_eq_not_any_not]
      simp only [Bool.not_not]
      rw [q]
      rfl
    · exact decide_eq_true (by show _ + 0 + 0 < 30; omega)
end
end HS
end
-- text EvEnum
section
set_option Elab.async false
set_option linter.all false
set_option maxRecDepth 100000

/-! enumerate over a tuple. -/
namespace HS
open PySem PySem.Spec PyProof.Rows L2
open Sem (wp)
set_option maxHeartbeats 1000000 in
theorem enum_new1 {v : Value} {o : Obj} {Z : Heap → Prop} (B : Begins v o Z) :
    Meets (Builtin.«enumerate.__new__» ⟨[.type "enumerate", v], []⟩) (fun _ R s => Z s.heap ∧ R (.ok (.ret (.ref (s.heap.push o).objs.size)))
      { s with heap := (s.heap.push o).push { cls := .type "enumerate", data := .fields #[.none, .bool false, .ref s.heap.objs.size, rawInt 0, .none, .none] } }) :=
  .of_wp fun prog w A R s hz => by
    obtain ⟨hp, g, d, tk, os⟩ := s
    obtain ⟨z1, fin⟩ := hz
    have hsub := sub_enumerate
    have it1 : ∀ {A' : Around} {F : Value → Shared → Prop} {S : Value → Shared → Prop}, S (.ref hp.objs.size) ⟨hp.push o, g, d, tk, os⟩ → wpAny (model prog w) A' (pyIter v) S F ⟨hp, g, d, tk, os⟩ := fun q => B.iter prog w _ _ _ _ z1 q
    wp_walk using it1
    refine wpAny_stack_any fun st => wpAny_pure ?_
    split
    · rename_i c _ _ _ _ _
      cases (c == Value.type "enumerate") <;> (wp_walk using it1; exact ⟨_, rfl, fin⟩)
    · wp_walk using it1
      exact ⟨_, rfl, fin⟩
section
variable {prog : Program} {w : World} {A : Around} {E : Value → Shared → Prop} {s : Shared}
theorem enum_tup {t : Addr} {its : Array Value} {Q : Value → Shared → Prop} (ht : s.heap.IsTuple t its)
    (h : ∀ h', IsEnum h' (s.heap.objs.size + 1) s.heap.objs.size 0 .none → h'.IsTupleIter s.heap.objs.size t 0 → (∀ b o, s.heap.get? b = some o → h'.get? b = some o) → Q (.ref (s.heap.objs.size + 1)) { s with heap := h' }) :
    wpAny (model prog w) A (call (.type "enumerate") [.ref t]) Q E s := by
  refine callType_new F.called_enumerate (by decide) (F.typeCall_enumerate_1 _) (F.newCall_enumerate_1 _) (fun _ => F.args_object_init_2 _ _) F.entry_enumerate_new (enum_new1 (begins_tuple t its)) ⟨ht, ?_⟩
  have z : (s.heap.push { cls := .type "tuple_iterator", data := .fields #[.ref t, .int 0 0] }).objs.size = s.heap.objs.size + 1 := Heap.size_push ..
  show _ ∧ _
  rw [z]
  have e1 : ((s.heap.push { cls := .type "tuple_iterator", data := .fields #[.ref t, .int 0 0] }).push { cls := .type "enumerate", data := .fields #[.none, .bool false, .ref s.heap.objs.size, rawInt 0, .none, .none] }).get? (s.heap.objs.size + 1) =
      some { cls := .type "enumerate", data := .fields #[.none, .bool false, .ref s.heap.objs.size, rawInt 0, .none, .none] } := by
    rw [← z]
    exact Heap.get?_push_size _ rfl
  exact ⟨⟨_, e1, rfl⟩, h _ e1 ⟨_, Heap.get?_push_of_some _ (Heap.get?_push_size _ rfl), rfl, rfl⟩ fun b o q => Heap.get?_push_of_some _ (Heap.get?_push_of_some _ q)⟩
end
/-- the tuple at a, each item in a new pair -/
def IteT (K : PySem.W.Frag) (a : Addr) : It where
  go := fun i H => ∃ (xs : List L2.V) (x : L2.V), SqT K H a xs ∧ xs[i]? = some x
  yld := fun i H v H' => ∃ q x, v = .ref q ∧ H q = none ∧ H' = upd H q (.tup [.int (i : Nat), x]) ∧ ∀ xs, SqT K H a xs → xs[i]? = some x
  stop := fun i H => ∃ xs : List L2.V, SqT K H a xs ∧ i = xs.length
theorem turn_enumT {P : Program} {w : World} {K : PySem.W.Frag} {elts : List Expr} {kk : Nat} {tpos : Pos} {a e it : Addr} (hai : a ≠ it) (hae : a ≠ e) (hne : e ≠ it) :
    Turn P w K (.Tuple elts kk tpos) (IteT K a) [e, it] e (fun i h => (∃ old, IsEnum h e it ((i : Nat) : Int) old) ∧ h.IsTupleIter it a i) where
  mem := by simp
  obj := fun i h st b hb => by
    obtain ⟨⟨old, he⟩, ⟨o, ho, hc, hd⟩⟩ := st
    have z : b = e ∨ b = it := by simpa using hb
    rcases z with rfl | rfl
    · exact ⟨_, he, fun v q => nomatch q⟩
    · exact ⟨o, ho, fun v q => by rw [hd] at q; cases q⟩
  keep := fun i h h' ⟨⟨old, he⟩, hi⟩ k => ⟨⟨old, k e (by simp) _ he⟩, hi.at fun o q => k it (by simp) o q⟩
  item := by
    intro X hP hw hK hc i pins s σ H E I hf ⟨⟨old, he⟩, hit⟩ ⟨xs, x, hq, hx⟩
    subst hP hw hK
    obtain ⟨its, rv, p, hz⟩ := I.tuple hq
    obtain ⟨u, hu, ru⟩ := rv.get hx
    have le : e < s.heap.objs.size := Heap.lt_size he
    have li : it < s.heap.objs.size := by obtain ⟨_, q, _⟩ := hit; exact Heap.lt_size q
    have D := Draws.tuple (prog := X.prog) (w := X.w) (A := X.A.in1) (I.ok.hd hc) it a hai its.toArray
    have hlt : i < its.toArray.size := by
      rw [List.size_toArray, ← rv.length]
      exact (List.getElem?_eq_some_iff.mp hx).1
    refine wpAny_pyNext_enum_itemD D he ⟨hit, p⟩ hlt hne (by simp [hne, Ne.symm hae]) fun y h' tk hy ho hs' hT hsz hk => ?_
    have ey : y = u := by
      have hy' : its.toArray[i]? = some y := hy
      rw [List.getElem?_toArray, hu] at hy'
      exact (Option.some.inj hy').symm
    subst ey
    refine ⟨_, rfl, wpAny_letOwnedTupleGo_enum (s := { s with heap := h', toks := tk + 1 }) ho fun h2 he2 sb => ?_⟩
    have hT2 : h2.get? s.heap.objs.size = some { cls := .type "tuple", data := .seq #[.int i tk, y] } := (sb.2 _ (Nat.ne_of_gt le)).trans hT
    have I1 : Inv X pins σ (upd H s.heap.objs.size (.tup [.int (i : Nat), x])) { s with heap := h2, toks := tk + 1 } :=
      I.turnedNew (ch := [e, it]) (fun b ob hb q => by
        have n1 : b ≠ e := fun z => hb (by simp [z])
        have n2 : b ≠ it := fun z => hb (by simp [z])
        exact (sb.2 b n1).trans (hk b ob n1 n2 q)) hf (Nat.le_refl _) ⟨by show 2 ≤ sizeLine; decide, [.int i tk, y], .cons ⟨_, rfl⟩ (.cons ru .nil), ⟨_, hT2, rfl, _, rfl⟩⟩
    refine ⟨.ref s.heap.objs.size, _, I1, rfl, ⟨_, x, rfl, I.hok.fresh (Nat.le_refl _), rfl, fun ys hy2 => by rw [I.tuple_inj hy2 hq]; exact hx⟩, ⟨⟨y, ?_⟩, hs'.1.at fun o q => (sb.2 it (Ne.symm hne)).trans q⟩, fun b hb => ?_⟩
    · have z : ((i + 1 : Nat) : Int) = (i : Int) + 1 := by omega
      rw [z]
      exact he2
    · have z : b = e ∨ b = it := by simpa using hb
      have l : b < s.heap.objs.size := by rcases z with rfl | rfl <;> assumption
      rw [upd_ne (Nat.ne_of_lt l)]
      exact (hf b hb).1
  done := by
    intro X hP hw hK hc i pins s σ H E I hf ⟨⟨old, he⟩, hit⟩ ⟨xs, hq, hx⟩
    subst hP hw hK
    obtain ⟨its, rv, p, hz⟩ := I.tuple hq
    obtain ⟨f0, f1, f2, f3, f4, f5⟩ := hf it (by simp)
    have D := Draws.tuple (prog := X.prog) (w := X.w) (A := X.A.in1) (I.ok.hd hc) it a hai its.toArray
    have en : its.toArray.size = i := by rw [List.size_toArray, ← rv.length]; exact hx.symm
    exact wpAny_pyNext_enum_endD D he (by rw [en]; exact ⟨hit, p⟩) fun h' eb => ⟨rfl, I.turned (t' := s.toks) (fun b o hb q => eb b o hb q) f0 f1 f3 f4 f5⟩
  self := fun A i s Q E st h => let ⟨⟨_, he⟩, _⟩ := st; wpAny_pyIter_enum he h
end HS
end
-- text EvWalk
section
set_option Elab.async false
set_option linter.all false
set_option maxRecDepth 100000

/-! What a walk goes over, its turns. -/
namespace HS
open PySem PySem.Spec PyProof.Rows
section
variable {X : L2.Cx} {T : Tx} {E : XK}
/-- a list's place: known, the script, a cell -/
inductive LS (B : Bs) (ρ : List Addr) (H : Hp) (a : Addr) : List PV → Src → Prop
  | frz {ys : List V} {vs : List PV} : H a = some (.lst ys) → Out B ρ a → RVs B ρ H ys vs → LS B ρ H a vs []
  | scr {ns : List Int} : ScrAt B ρ H a ns → LS B ρ H a (ns.map .int) []
  | cel {k : Nat} {vs : List PV} : ρ[k]? = some a → LS B ρ H a vs [(k, vs)]
/-- a tuple's place -/
def TS' (B : Bs) (ρ : List Addr) (H : Hp) (a : Addr) (vs : List PV) : Prop := ∃ ys, TupAt B ρ H a ys ∧ RVs B ρ H ys vs
theorem LS.step {B : Bs} {ρ ρ' : List Addr} {H H' : Hp} {a : Addr} {vs : List PV} {s : Src} (l : LS B ρ H a vs s) (st : Step B ρ H ρ' H') : LS B ρ' H' a vs s := by
  cases l with
  | frz h1 h2 h3 => exact .frz (st.keep _ _ h2.1 ne_tbl_lst h1) ⟨st.out (.inl h1) h2.1, h2.2⟩ (h3.step st)
  | scr h => exact .scr (h.elim (fun h => .inl (st.at h ne_tbl_lst)) .inr)
  | cel h => exact .cel (st.ix h)
theorem TS'.step {B : Bs} {ρ ρ' : List Addr} {H H' : Hp} {a : Addr} {vs : List PV} (l : TS' B ρ H a vs) (st : Step B ρ H ρ' H') : TS' B ρ' H' a vs := by
  obtain ⟨ys, h1, h2⟩ := l
  exact ⟨ys, h1.elim (fun h => .inl (st.at h ne_tbl_tup)) .inr, h2.step st⟩
theorem LS.move {B B' : Bs} {ρ : List Addr} {H H' : Hp} (al : Alike B B') (e : ∀ a, Out B ρ a → H a ≠ none → H' a = H a ∧ Out B' ρ a) {a : Addr} {vs : List PV} {s : Src} (l : LS B ρ H a vs s) : LS B' ρ H' a vs s := by
  cases l with
  | frz h1 h2 h3 =>
    have q := e _ h2 (by rw [h1]; exact fun z => nomatch z)
    exact .frz (q.1.trans h1) q.2 (h3.move al e)
  | scr h => exact .scr (h.elim (fun h => .inl (At.move h (e _))) fun h => .inr (by rw [al.K]; exact h))
  | cel h => exact .cel h
theorem TS'.move {B B' : Bs} {ρ : List Addr} {H H' : Hp} (al : Alike B B') (e : ∀ a, Out B ρ a → H a ≠ none → H' a = H a ∧ Out B' ρ a) {a : Addr} {vs : List PV} (l : TS' B ρ H a vs) : TS' B' ρ H' a vs := by
  obtain ⟨ys, h1, h2⟩ := l
  exact ⟨ys, h1.elim (fun h => .inl (At.move h (e _))) fun h => .inr (by rw [al.K]; exact h), h2.move al e⟩
theorem LS.now {B : Bs} {ρ : List Addr} {H : Hp} {h : Hv} {a : Addr} {vs : List PV} {s : Src} (l : LS B ρ H a vs s) (rh : RH B ρ h H) (ok : srcOk h s) : ∃ ys, L2.SqL B.K H a ys ∧ RVs B ρ H ys vs := by
  cases l with
  | frz h1 _ h3 => exact ⟨_, .inl (.inl h1), h3⟩
  | scr h => exact ⟨_, h.sq, RVs.of_ints _⟩
  | @cel k _ hk =>
    obtain ⟨b, ys, e, h1, h2⟩ := lst_at (v := .ref k) rh (.ref hk) (ok _ (List.mem_cons_self ..))
    cases e
    exact ⟨ys, .inl (.inl h1), h2⟩
theorem TS'.now {B : Bs} {ρ : List Addr} {H : Hp} {a : Addr} {vs : List PV} (l : TS' B ρ H a vs) : ∃ ys, L2.SqT B.K H a ys ∧ RVs B ρ H ys vs := let ⟨ys, h1, h2⟩ := l; ⟨ys, h1.sq, h2⟩
/-- a walk, its items, the lists it leans on -/
inductive WF (B : Bs) (ρ : List Addr) (H : Hp) : L2.It → List PV → Src → Prop
  | lst {a : Addr} {vs : List PV} {s : Src} : LS B ρ H a vs s → WF B ρ H (L2.Itl B.K a) vs s
  | tup {a : Addr} {vs : List PV} : TS' B ρ H a vs → WF B ρ H (L2.Itt B.K a) vs []
  | rng {lo : Int} {n : Nat} : WF B ρ H (L2.Itr lo n) ((List.range n).map fun i => .int (lo + (i : Nat))) []
  | enL {a : Addr} {vs : List PV} {s : Src} : LS B ρ H a vs s → WF B ρ H (L2.Ite B.K a) (enumP vs) s
  | enT {a : Addr} {vs : List PV} : TS' B ρ H a vs → WF B ρ H (IteT B.K a) (enumP vs) []
  | zpL {a b : Addr} {vs ws : List PV} {s t : Src} : LS B ρ H a vs s → LS B ρ H b ws t → WF B ρ H (L2.Itz B.K a b) (zipP vs ws) (s ++ t)
  | zpT {a b : Addr} {vs ws : List PV} : TS' B ρ H a vs → TS' B ρ H b ws → WF B ρ H (RZ.ItzT B.K a b) (zipP vs ws) []
theorem WF.step {B : Bs} {ρ ρ' : List Addr} {H H' : Hp} {J : L2.It} {xs : List PV} {s : Src} (l : WF B ρ H J xs s) (st : Step B ρ H ρ' H') : WF B ρ' H' J xs s := by
  cases l with
  | lst h => exact .lst (h.step st)
  | tup h => exact .tup (h.step st)
  | rng => exact .rng
  | enL h => exact .enL (h.step st)
  | enT h => exact .enT (h.step st)
  | zpL h g => exact .zpL (h.step st) (g.step st)
  | zpT h g => exact .zpT (h.step st) (g.step st)
theorem WF.move {B B' : Bs} {ρ : List Addr} {H H' : Hp} (al : Alike B B') (e : ∀ a, Out B ρ a → H a ≠ none → H' a = H a ∧ Out B' ρ a) {J : L2.It} {xs : List PV} {s : Src} (l : WF B ρ H J xs s) : WF B' ρ H' J xs s := by
  cases l with
  | lst h => rw [← al.K]; exact .lst (h.move al e)
  | tup h => rw [← al.K]; exact .tup (h.move al e)
  | rng => exact .rng
  | enL h => rw [← al.K]; exact .enL (h.move al e)
  | enT h => rw [← al.K]; exact .enT (h.move al e)
  | zpL h g => rw [← al.K]; exact .zpL (h.move al e) (g.move al e)
  | zpT h g => rw [← al.K]; exact .zpT (h.move al e) (g.move al e)
theorem enumP_len (vs : List PV) : (enumP vs).length = vs.length := by unfold enumP; simp
theorem enumP_get {vs : List PV} {i : Nat} {v : PV} (e : vs[i]? = some v) : (enumP vs)[i]? = some (.tup [.int (i : Nat), v]) := by
  have hl := (List.getElem?_eq_some_iff.mp e).1
  unfold enumP
  rw [List.getElem?_map, List.getElem?_range hl, Option.map_some, List.getD_eq_getElem?_getD, e]
  rfl
theorem zipP_len (vs ws : List PV) : (zipP vs ws).length = min vs.length ws.length := by unfold zipP; simp
theorem zipP_get {vs ws : List PV} {i : Nat} {v w : PV} (e1 : vs[i]? = some v) (e2 : ws[i]? = some w) : (zipP vs ws)[i]? = some (.tup [v, w]) := by
  unfold zipP
  rw [List.getElem?_zipWith, e1, e2]
/-- a new pair -/
theorem pair_new {B : Bs} {ρ : List Addr} {H : Hp} {h : Hv} {q : Addr} {x y : V} {v w : PV} (rh : RH B ρ h H) (hq : H q = none) (r1 : RV B ρ H x v) (r2 : RV B ρ H y w) :
    Step B ρ H ρ (L2.upd H q (.tup [x, y])) ∧ RH B ρ h (L2.upd H q (.tup [x, y])) ∧ RV B ρ (L2.upd H q (.tup [x, y])) (.ref q) (.tup [v, w]) := by
  have st : Step B ρ H ρ (L2.upd H q (.tup [x, y])) := Step.laid hq
  exact ⟨st, rh.laid hq, .tup (.inl ⟨.inl L2.upd_same, rh.fresh hq⟩) (.cons (r1.step st) (.cons (r2.step st) .nil))⟩
/-- the turns -/
theorem WF.use {B : Bs} {ρ : List Addr} {H : Hp} {h : Hv} {J : L2.It} {xs : List PV} {s : Src} (l : WF B ρ H J xs s) (rh : RH B ρ h H) (ok : srcOk h s) :
    (∀ i v, xs[i]? = some v → J.go i H ∧ ∀ x H', J.yld i H x H' → Step B ρ H ρ H' ∧ RH B ρ h H' ∧ RV B ρ H' x v) ∧ J.stop xs.length H := by
  cases l with
  | lst hl =>
    obtain ⟨ys, h1, h2⟩ := hl.now rh ok
    refine ⟨fun i v e => ?_, ys, h1, by rw [h2.length]; exact Nat.le_refl _⟩
    obtain ⟨y, e1, ry⟩ := h2.get e
    refine ⟨⟨ys, y, h1, e1⟩, fun x H' hy => ?_⟩
    obtain ⟨rfl, f⟩ := hy
    have z := f ys h1
    rw [e1] at z
    cases z
    exact ⟨.refl, rh, ry⟩
  | tup hl =>
    obtain ⟨ys, h1, h2⟩ := hl.now
    refine ⟨fun i v e => ?_, ys, h1, by rw [h2.length]; exact Nat.le_refl _⟩
    obtain ⟨y, e1, ry⟩ := h2.get e
    refine ⟨⟨ys, y, h1, e1⟩, fun x H' hy => ?_⟩
    obtain ⟨rfl, f⟩ := hy
    have z := f ys h1
    rw [e1] at z
    cases z
    exact ⟨.refl, rh, ry⟩
  | @rng lo n =>
    refine ⟨fun i v e => ?_, by rw [List.length_map, List.length_range]; exact Nat.le_refl _⟩
    have hi : i < n := by
      have := (List.getElem?_eq_some_iff.mp e).1
      simpa using this
    refine ⟨hi, fun x H' hy => ?_⟩
    obtain ⟨rfl, rfl⟩ := hy
    rw [List.getElem?_map, List.getElem?_range hi] at e
    cases e
    exact ⟨.refl, rh, .int _⟩
  | @enL a vs s hl =>
    obtain ⟨ys, h1, h2⟩ := hl.now rh ok
    refine ⟨fun i v e => ?_, ys, h1, by rw [h2.length, enumP_len]; exact Nat.le_refl _⟩
    have hi : i < vs.length := by
      have := (List.getElem?_eq_some_iff.mp e).1
      rwa [enumP_len] at this
    rw [enumP_get (List.getElem?_eq_getElem hi)] at e
    cases e
    obtain ⟨y, e1, ry⟩ := h2.get (List.getElem?_eq_getElem hi)
    refine ⟨⟨ys, y, h1, e1⟩, fun x H' hy => ?_⟩
    obtain ⟨q, z, rfl, hq, rfl, f⟩ := hy
    have z2 := f ys h1
    rw [e1] at z2
    cases z2
    exact pair_new rh hq (.int _) ry
  | @enT a vs hl =>
    obtain ⟨ys, h1, h2⟩ := hl.now
    refine ⟨fun i v e => ?_, ys, h1, by rw [h2.length, enumP_len]⟩
    have hi : i < vs.length := by
      have := (List.getElem?_eq_some_iff.mp e).1
      rwa [enumP_len] at this
    rw [enumP_get (List.getElem?_eq_getElem hi)] at e
    cases e
    obtain ⟨y, e1, ry⟩ := h2.get (List.getElem?_eq_getElem hi)
    refine ⟨⟨ys, y, h1, e1⟩, fun x H' hy => ?_⟩
    obtain ⟨q, z, rfl, hq, rfl, f⟩ := hy
    have z2 := f ys h1
    rw [e1] at z2
    cases z2
    exact pair_new rh hq (.int _) ry
  | @zpL a b vs ws s t hl gl =>
    obtain ⟨ys, h1, h2⟩ := hl.now rh fun p hp => ok p (List.mem_append_left _ hp)
    obtain ⟨zs, g1, g2⟩ := gl.now rh fun p hp => ok p (List.mem_append_right _ hp)
    refine ⟨fun i v e => ?_, ys, zs, h1, g1, by rw [h2.length, g2.length, zipP_len]; omega⟩
    have hi : i < min vs.length ws.length := by
      have := (List.getElem?_eq_some_iff.mp e).1
      rwa [zipP_len] at this
    have i1 : i < vs.length := by omega
    have i2 : i < ws.length := by omega
    rw [zipP_get (List.getElem?_eq_getElem i1) (List.getElem?_eq_getElem i2)] at e
    cases e
    obtain ⟨y, e1, ry⟩ := h2.get (List.getElem?_eq_getElem i1)
    obtain ⟨z, e2, rz⟩ := g2.get (List.getElem?_eq_getElem i2)
    refine ⟨⟨ys, zs, y, z, h1, g1, e1, e2⟩, fun x H' hy => ?_⟩
    obtain ⟨q, y', z', rfl, hq, rfl, f, g⟩ := hy
    have q1 := f ys h1
    have q2 := g zs g1
    rw [e1] at q1
    rw [e2] at q2
    cases q1
    cases q2
    exact pair_new rh hq ry rz
  | @zpT a b vs ws hl gl =>
    obtain ⟨ys, h1, h2⟩ := hl.now
    obtain ⟨zs, g1, g2⟩ := gl.now
    refine ⟨fun i v e => ?_, ys, zs, h1, g1, by rw [h2.length, g2.length, zipP_len]; omega⟩
    have hi : i < min vs.length ws.length := by
      have := (List.getElem?_eq_some_iff.mp e).1
      rwa [zipP_len] at this
    have i1 : i < vs.length := by omega
    have i2 : i < ws.length := by omega
    rw [zipP_get (List.getElem?_eq_getElem i1) (List.getElem?_eq_getElem i2)] at e
    cases e
    obtain ⟨y, e1, ry⟩ := h2.get (List.getElem?_eq_getElem i1)
    obtain ⟨z, e2, rz⟩ := g2.get (List.getElem?_eq_getElem i2)
    refine ⟨⟨ys, zs, y, z, h1, g1, e1, e2⟩, fun x H' hy => ?_⟩
    obtain ⟨q, y', z', rfl, hq, rfl, f, g⟩ := hy
    have q1 := f ys h1
    have q2 := g zs g1
    rw [e1] at q1
    rw [e2] at q2
    cases q1
    cases q2
    exact pair_new rh hq ry rz
/-! ### iterators -/
def tI (B : Bs) (E : XK) (f : IS) : L2.TI := fun σ H R => ∃ hd ρ sg h, RS (B.wh hd) ρ H sg σ ∧ RH (B.wh hd) ρ h H ∧ PostR (B.wh hd) (fun ρ' H' (J : L2.It) (p : List PV × Src) => WF (B.wh hd) ρ' H' J p.1 p.2) E ρ H (f sg h) R
/-- the walk of a value in its own place -/
theorem seqS_at {hd : List Addr} {ρ : List Addr} {H : Hp} {h : Hv} {x : V} {v : PV} {xs : List PV} {s : Src} (rh : RH (bW X T hd) ρ h H) (rv : RV (bW X T hd) ρ H x v) (e : seqS h v = some (xs, s)) :
    ∃ a, x = .ref a ∧ ((isT v = false ∧ LS (bW X T hd) ρ H a xs s) ∨ (isT v = true ∧ TS' (bW X T hd) ρ H a xs ∧ s = [])) := by
  cases rv with
  | tup h r => cases e; exact ⟨_, rfl, .inr ⟨rfl, ⟨_, h, r⟩, rfl⟩⟩
  | lst h n r => cases e; exact ⟨_, rfl, .inl ⟨rfl, .frz h n r⟩⟩
  | scr h => cases e; exact ⟨_, rfl, .inl ⟨rfl, .scr h⟩⟩
  | @ref k a hk =>
    have e : (cellL h k).map (fun xs => (xs, [(k, xs)])) = some (xs, s) := e
    obtain ⟨ys, e1, e2⟩ := Option.map_eq_some_iff.mp e
    cases e2
    exact ⟨_, rfl, .inl ⟨rfl, .cel hk⟩⟩
  | _ => cases e
/-- over a list or a tuple -/
theorem pi_any {tg l : Expr} {tl : L2.TE} (hl : L2.PE X l tl) : L2.PI X tg l (fun σ H R => tl σ H fun x H1 => ∃ a, x = .ref a ∧ ((∃ xs, L2.SqL X.K H1 a xs ∧ R (L2.Itl X.K a) H1) ∨ (∃ xs, L2.SqT X.K H1 a xs ∧ R (L2.Itt X.K a) H1))) := by
  refine ⟨fun pins s σ H R I h => L2.thn (hl.run pins s σ H _ I h) fun v s1 ⟨x, H1, I1, r1, a, ex, q⟩ => ?_⟩
  subst ex
  cases r1
  have own : ∀ b ∈ [s1.heap.objs.size], L2.FpOk X pins H1 b := fun b hb => by
    rw [List.mem_singleton.mp hb]
    exact I1.fpOk (Nat.le_refl _) (I1.hok.fresh (Nat.le_refl _))
  rcases q with ⟨xs, hq, q⟩ | ⟨xs, hq, q⟩
  · obtain ⟨its, rv, p, hz⟩ := I1.list hq
    exact wpAny_pyIter_list p.isList ⟨_, [s1.heap.objs.size], _, _, H1, rfl, I1.kept (t' := s1.toks) fun b o e => Heap.get?_push_of_some _ e, L2.turn_list a _, ⟨_, Heap.get?_push_size _ rfl, rfl, rfl⟩, own, q⟩
  · obtain ⟨its, rv, p, hz⟩ := I1.tuple hq
    exact wpAny_pyIter_tuple (show s1.heap.IsTuple a its.toArray from p) ⟨_, [s1.heap.objs.size], _, _, H1, rfl, I1.kept (t' := s1.toks) fun b o e => Heap.get?_push_of_some _ e, L2.turn_tuple a _, ⟨_, Heap.get?_push_size _ rfl, rfl, rfl⟩, own, q⟩
theorem PI.imp {tg l : Expr} {t t' : L2.TI} (h : L2.PI X tg l t) (i : ∀ σ H R, t' σ H R → t σ H R) : L2.PI X tg l t' := ⟨fun pins s σ H R I q => h.run pins s σ H R I (i σ H R q)⟩
theorem ofOM {α β : Type} {B : Bs} {RA : List Addr → Hp → β → α → Prop} {ρ : List Addr} {H : Hp} {h : Hv} {o : Option α} {R : β → Hp → Prop} (p : PostR B RA E ρ H (M.ofO o h) R) : ∃ a, o = some a ∧ PostR B RA E ρ H (.ok a h) R := by
  cases o with
  | some a => exact ⟨a, rfl, p⟩
  | none => exact p.elim
abbrev tIX (X : L2.Cx) (T : Tx) (E : XK) (f : IS) : L2.TI := tI (bsOf X T) E f
theorem i_seq {tg l : Expr} {f : ES} (hl : L2.PE X l (tEX X T E f)) : L2.PI X tg l (tIX X T E (iSeq f)) :=
  PI.imp (pi_any hl) fun σ H R ⟨hd, ρ, sg, h, rs, rh, p⟩ => ⟨hd, ρ, sg, h, rs, rh, p.bnd.mono fun x H1 ⟨ρ1, h1, v, s1, r1, rv, p1⟩ => by
    obtain ⟨⟨xs, s⟩, e, p2⟩ := ofOM p1
    obtain ⟨a, rfl, q | ⟨q1, q, rfl⟩⟩ := seqS_at r1 rv e
    · refine ⟨a, rfl, .inl ?_⟩
      have w : R (L2.Itl X.K a) H1 := p2 ρ1 H1 _ .refl r1 (.lst (B := bW X T hd) q.2)
      cases q.2 with
      | frz h1 _ _ => exact ⟨_, .inl (.inl h1), w⟩
      | scr h => exact ⟨_, h.sq, w⟩
      | @cel k _ hk =>
        cases v with
        | ref j =>
          obtain ⟨ys, e1, e2⟩ := Option.map_eq_some_iff.mp (show (cellL h1 j).map (fun xs => (xs, [(j, xs)])) = some (xs, [(k, xs)]) from e)
          cases e2
          obtain ⟨b, zs, e3, hb, _⟩ := lst_at (v := .ref k) r1 rv e1
          cases e3
          exact ⟨zs, .inl (.inl hb), w⟩
        | tup _ => cases e
        | lst _ => cases e
        | scr _ => cases e
        | _ => cases e
    · obtain ⟨ys, h1, h2⟩ := q.now
      exact ⟨a, rfl, .inr ⟨ys, h1, p2 ρ1 H1 _ .refl r1 (.tup (B := bW X T hd) q)⟩⟩⟩
theorem i_rng1 {tg a : Expr} {p pos : Pos} {f : ES} (hg : L2.Gl X "range") (hm : X.mg "range" = none) (ha : L2.PE X a (tEX X T E f)) (hs : isStar a = false) : L2.PI X tg (.Call (.Name "range" p) [a] [] pos) (tIX X T E (iRng1 f)) :=
  PI.imp (L2.pi_range1 hg hm (L2.pa_cons ha L2.pa_nil (star_cons hs)) (star_cons hs)) fun σ H R ⟨hd, ρ, sg, h, rs, rh, p⟩ => ⟨hd, ρ, sg, h, rs, rh, p.bnd.mono fun x H1 ⟨ρ1, h1, v, s1, r1, rv, p1⟩ => by
    dsimp only at p1
    split at p1
    · rename_i n
      obtain rfl := rv_int rv
      split at p1
      · rename_i hz
        refine ⟨n, rfl, hz.2.2.1, hz.2.2.2, p1 ρ1 H1 _ .refl r1 ?_⟩
        have w := WF.rng (B := bW X T hd) (ρ := ρ1) (H := H1) (lo := 0) (n := n.toNat)
        unfold rgP
        rw [Int.sub_zero]
        exact w
      · exact p1.elim
    · exact p1.elim⟩
theorem i_rng2 {tg a b : Expr} {p pos : Pos} {f g : ES} (hg : L2.Gl X "range") (hm : X.mg "range" = none) (ha : L2.PE X a (tEX X T E f)) (hb : L2.PE X b (tEX X T E g)) (hs : isStar a = false) (hs2 : isStar b = false) : L2.PI X tg (.Call (.Name "range" p) [a, b] [] pos) (tIX X T E (iRng2 f g)) :=
  PI.imp (L2.pi_range2 hg hm (L2.pa_cons ha (L2.pa_cons hb L2.pa_nil (star_cons hs2)) (star_cons hs)) (by rw [star_cons hs, star_cons hs2]; rfl) (star_cons hs2)) fun σ H R ⟨hd, ρ, sg, h, rs, rh, p⟩ => ⟨hd, ρ, sg, h, rs, rh, p.bnd.mono fun x H1 ⟨ρ1, h1, v, s1, r1, rv, p1⟩ => by
    refine ⟨hd, ρ1, sg, h1, rs.step s1, r1, p1.bnd.mono fun y H2 ⟨ρ2, h2, w, s2, r2, rw', p2⟩ => ?_⟩
    dsimp only at p2
    split at p2
    · obtain rfl := rv_int rv
      obtain rfl := rv_int rw'
      split at p2
      · rename_i hz
        exact ⟨_, _, rfl, hz, p2 ρ2 H2 _ .refl r2 (WF.rng (B := bW X T hd))⟩
      · exact p2.elim
    · exact p2.elim⟩
/-- enumerate(list), enumerate(tuple) -/
theorem pi_enumA {e : Expr} {ta : L2.TA} {p pos tpos : Pos} {elts : List Expr} {kk : Nat} (hg : L2.Gl X "enumerate") (hm : X.mg "enumerate" = none) (ha : L2.PA X [e] ta) (hs : starEach [e] X.env = [(false, eval e X.env)]) :
    L2.PI X (.Tuple elts kk tpos) (.Call (.Name "enumerate" p) [e] [] pos) (fun σ H R => ta σ H fun vs H1 => ∃ a, vs = [.ref a] ∧ ((∃ xs, L2.SqL X.K H1 a xs ∧ R (L2.Ite X.K a) H1) ∨ (∃ xs, L2.SqT X.K H1 a xs ∧ R (IteT X.K a) H1))) := by
  refine ⟨fun pins s σ H R I h => PyProof.Rows.Call_ (L2.ld_blt I hg hm boot_enumerate (PyProof.Rows.callWith_type1 (L2.thn (ha.run pos pins s σ H _ I h) fun us s1 ⟨vs, H1, I1, r1, a, ex, q⟩ => ?_) hs rfl))⟩
  subst ex
  obtain ⟨u, rfl, ru⟩ := vals1 r1
  cases ru
  have own : ∀ b ∈ [s1.heap.objs.size + 1, s1.heap.objs.size], L2.FpOk X pins H1 b := fun b hb => by
    have l : s1.heap.objs.size ≤ b := by
      rcases List.mem_cons.mp hb with z | z
      · rw [z]; exact Nat.le_succ _
      · rw [List.mem_singleton.mp z]; exact Nat.le_refl _
    exact I1.fpOk l (I1.hok.fresh l)
  rcases q with ⟨xs, hq, q⟩ | ⟨xs, hq, q⟩
  · obtain ⟨its, rv, pl, hz⟩ := I1.list hq
    exact call_enumerate_list pl.isList fun h' he hit hsz hk => wpAny_pyIter_enum he ⟨_, _, _, _, H1, rfl, I1.kept (t' := s1.toks) hk, L2.turn_enum a _ s1.heap.objs.size, ⟨⟨.none, he⟩, hit, Nat.succ_ne_self _⟩, own, q⟩
  · obtain ⟨its, rv, pl, hz⟩ := I1.tuple hq
    have la : a < s1.heap.objs.size := by obtain ⟨o, h1, _⟩ := pl; exact Heap.lt_size h1
    exact enum_tup pl fun h' he hit hk => wpAny_pyIter_enum he ⟨_, _, _, _, H1, rfl, I1.kept (t' := s1.toks) hk, turn_enumT (Nat.ne_of_lt la) (Nat.ne_of_lt (Nat.lt_succ_of_lt la)) (Nat.succ_ne_self _), ⟨⟨.none, he⟩, hit⟩, own, q⟩
theorem sq_of {hd : List Addr} {ρ : List Addr} {H : Hp} {h : Hv} {a : Addr} {v : PV} {xs : List PV} {s : Src} (rh : RH (bW X T hd) ρ h H) (rv : RV (bW X T hd) ρ H (.ref a) v) (e : seqS h v = some (xs, s)) (l : LS (bW X T hd) ρ H a xs s) : ∃ ys, L2.SqL X.K H a ys := by
  cases l with
  | frz h1 _ _ => exact ⟨_, .inl (.inl h1)⟩
  | scr h => exact ⟨_, h.sq⟩
  | @cel k _ hk =>
    obtain ⟨c, e1, rc⟩ := rh.tracked hk
    cases v with
    | ref j =>
      obtain ⟨ys, e1, e2⟩ := Option.map_eq_some_iff.mp (show (cellL h j).map (fun xs => (xs, [(j, xs)])) = some (xs, [(k, xs)]) from e)
      cases e2
      obtain ⟨b, zs, e3, hb, _⟩ := lst_at (v := .ref k) rh rv e1
      cases e3
      exact ⟨zs, .inl (.inl hb)⟩
    | _ => cases e
theorem i_enum {e : Expr} {p pos tpos : Pos} {elts : List Expr} {kk : Nat} {f : ES} (hg : L2.Gl X "enumerate") (hm : X.mg "enumerate" = none) (ha : L2.PE X e (tEX X T E f)) (hs : isStar e = false) :
    L2.PI X (.Tuple elts kk tpos) (.Call (.Name "enumerate" p) [e] [] pos) (tIX X T E (iEnum f)) :=
  PI.imp (pi_enumA hg hm (L2.pa_cons ha L2.pa_nil (star_cons hs)) (star_cons hs)) fun σ H R ⟨hd, ρ, sg, h, rs, rh, p⟩ => ⟨hd, ρ, sg, h, rs, rh, p.bnd.mono fun x H1 ⟨ρ1, h1, v, s1, r1, rv, p1⟩ => by
    obtain ⟨pr, e, p2⟩ := ofOM p1
    obtain ⟨⟨xs, s⟩, e1, e2⟩ := Option.map_eq_some_iff.mp e
    subst e2
    obtain ⟨a, rfl, q | ⟨q1, q, rfl⟩⟩ := seqS_at r1 rv e1
    · obtain ⟨ys, hy⟩ := sq_of r1 rv e1 q.2
      exact ⟨a, rfl, .inl ⟨ys, hy, p2 ρ1 H1 _ .refl r1 (.enL (B := bW X T hd) q.2)⟩⟩
    · obtain ⟨ys, h1, h2⟩ := q.now
      exact ⟨a, rfl, .inr ⟨ys, h1, p2 ρ1 H1 _ .refl r1 (.enT (B := bW X T hd) q)⟩⟩⟩
theorem i_zip {e e2 : Expr} {p pos tpos : Pos} {elts : List Expr} {kk : Nat} {f g : ES} (hg : L2.Gl X "zip") (hm : X.mg "zip" = none) (ha : L2.PE X e (tEX X T E f)) (hb : L2.PE X e2 (tEX X T E g)) (hs : isStar e = false) (hs2 : isStar e2 = false) :
    L2.PI X (.Tuple elts kk tpos) (.Call (.Name "zip" p) [e, e2] [] pos) (tIX X T E (iZip f g)) :=
  PI.imp (RZ.pi_zipA hg hm (L2.pa_cons ha (L2.pa_cons hb L2.pa_nil (star_cons hs2)) (star_cons hs)) (star_cons hs) (star_any (by rw [List.any_cons, hs2]; rfl))) fun σ H R ⟨hd, ρ, sg, h, rs, rh, p⟩ => ⟨hd, ρ, sg, h, rs, rh, p.bnd.mono fun x H1 ⟨ρ1, h1, v, s1, r1, rv, p1⟩ => by
    refine ⟨hd, ρ1, sg, h1, rs.step s1, r1, p1.bnd.mono fun y H2 ⟨ρ2, h2, w, s2, r2, rw', p2⟩ => ?_⟩
    have rv2 := rv.step s2
    dsimp only at p2
    split at p2
    · rename_i hT
      split at p2
      · rename_i pr e1
        split at p2
        · rename_i pq e2'
          obtain ⟨xs, s⟩ := pr
          obtain ⟨ys, t⟩ := pq
          obtain ⟨a, rfl, q | ⟨q1, q, rfl⟩⟩ := seqS_at r2 rv2 e1
          · obtain ⟨b, rfl, g | ⟨g1, g, rfl⟩⟩ := seqS_at r2 rw' e2'
            · obtain ⟨zs, hz⟩ := sq_of r2 rv2 e1 q.2
              obtain ⟨us, hu⟩ := sq_of r2 rw' e2' g.2
              exact ⟨a, b, zs, us, rfl, .inl ⟨hz, hu, p2 ρ2 H2 _ .refl r2 (.zpL (B := bW X T hd) q.2 g.2)⟩⟩
            · rw [q.1, g1] at hT
              cases hT
          · obtain ⟨b, rfl, g | ⟨g1, g, rfl⟩⟩ := seqS_at r2 rw' e2'
            · rw [q1, g.1] at hT
              cases hT
            · obtain ⟨zs, hz, _⟩ := q.now
              obtain ⟨us, hu, _⟩ := g.now
              exact ⟨a, b, zs, us, rfl, .inr ⟨hz, hu, p2 ρ2 H2 _ .refl r2 (.zpT (B := bW X T hd) q g)⟩⟩
        · exact p2.elim
      · exact p2.elim
    · exact p2.elim⟩
end
end HS
end
-- text EvStmt
section
set_option Elab.async false
set_option linter.all false
set_option maxRecDepth 100000

/-! Targets, statements, loops, comprehensions. -/
namespace HS
open PySem PySem.Spec PyProof.Rows
section
variable {X : L2.Cx} {T : Tx} {E : XK} {pos : Pos}
/-! ### targets -/
def tG (X : L2.Cx) (T : Tx) (g : TGt) (S : List Nat) : L2.TG := fun x σ H Q => ∃ hd ρ h v sg sg', RH (bW X T hd) ρ h H ∧ RV (bW X T hd) ρ H x v ∧ RS (bW X T hd) ρ H sg σ ∧ g v sg = some sg' ∧
  ∀ σ', RS (bW X T hd) ρ H sg' σ' → σ'.length = σ.length → (∀ j, j ∉ S → σ'[j]? = σ[j]?) → Q σ' H
def tGs (X : L2.Cx) (T : Tx) (gs : List TGt) (S : List Nat) : L2.TGs := fun xs σ H Q => ∃ hd ρ h vs sg sg', RH (bW X T hd) ρ h H ∧ RVs (bW X T hd) ρ H xs vs ∧ RS (bW X T hd) ρ H sg σ ∧ gAll gs vs sg = some sg' ∧
  ∀ σ', RS (bW X T hd) ρ H sg' σ' → σ'.length = σ.length → (∀ j, j ∉ S → σ'[j]? = σ[j]?) → Q σ' H
theorem PG.imp {e : Expr} {t t' : L2.TG} (h : L2.PG X e t) (i : ∀ x σ H Q, t' x σ H Q → t x σ H Q) : L2.PG X e t' := ⟨fun pins s σ H v u Q I r q => h.run pins s σ H v u Q I r (i v σ H Q q)⟩
theorem PGs.imp {e : List Expr} {t t' : L2.TGs} (h : L2.PGs X e t) (i : ∀ x σ H Q, t' x σ H Q → t x σ H Q) : L2.PGs X e t' := ⟨fun pins s σ H v u Q I r q => h.run pins s σ H v u Q I r (i v σ H Q q)⟩
theorem g_name {i : Nat} {x : Str} (hN : X.N.Nodup) (hi : X.N[i]? = some x) (hx : L2.Loc X.env.scope x) (hf : X.fn x = true ∨ X.env.scope.names.lookup x = some .local) : L2.PG X (.Name x pos) (tG X T (gNm i) [i]) :=
  PG.imp (L2.pg_name hN hi hx hf) fun x σ H Q ⟨hd, ρ, h, v, sg, sg', rh, rv, rs, e, q⟩ => by
    cases e
    refine q _ (rs.set i rv) (by rw [List.length_set]) fun j hj => ?_
    rw [List.getElem?_set_ne fun z => hj (by rw [z]; exact List.mem_singleton.mpr rfl)]
/-- targets, each told with its slots -/
inductive EachG (X : L2.Cx) (T : Tx) : List Expr → List TGt → List Nat → Prop
  | nil : EachG X T [] [] []
  | cons {e : Expr} {g : TGt} {S : List Nat} {es : List Expr} {gs : List TGt} {Ss : List Nat} : L2.PG X e (tG X T g S) → EachG X T es gs Ss → EachG X T (e :: es) (g :: gs) (S ++ Ss)
theorem assign_cons {e : Expr} {es : List Expr} {env : Env} (h : isStar e = false) : assignEach (e :: es) env = (false, assign e env) :: assignEach es env := by
  cases e <;> first | rfl | cases h
theorem gs_all : ∀ {es : List Expr} {gs : List TGt} {S : List Nat}, EachG X T es gs S → es.any isStar = false → L2.PGs X es (tGs X T gs S)
  | _, _, _, .nil, _ => PGs.imp L2.pgs_nil fun xs σ H Q ⟨hd, ρ, h, vs, sg, sg', rh, rv, rs, e, q⟩ => by
    cases rv with
    | nil =>
      cases e
      exact ⟨rfl, q σ rs rfl fun _ _ => rfl⟩
    | cons _ _ => cases e
  | _, _, _, .cons (g := g) (S := S) (Ss := Ss) h t, hs => by
    rw [List.any_cons, Bool.or_eq_false_iff] at hs
    refine PGs.imp (L2.pgs_cons h (gs_all t hs.2) (by rw [assign_cons hs.1]; rfl)) fun xs σ H Q ⟨hd, ρ, h, vs, sg, sg', rh, rv, rs, e, q⟩ => ?_
    cases rv with
    | nil => cases e
    | cons r rr =>
      have e : (g _ sg).bind (fun σ' => gAll _ _ σ') = some sg' := e
      obtain ⟨sg1, e1, e2⟩ := Option.bind_eq_some_iff.mp e
      refine ⟨_, _, rfl, hd, ρ, h, _, sg, sg1, rh, r, rs, e1, fun σ1 rs1 l1 k1 => ?_⟩
      refine ⟨hd, ρ, h, _, sg1, sg', rh, rr, rs1, e2, fun σ2 rs2 l2 k2 => q σ2 rs2 (l2.trans l1) fun j hj => ?_⟩
      rw [List.mem_append, not_or] at hj
      rw [k2 j hj.2, k1 j hj.1]
theorem assign_len {env : Env} : ∀ {es : List Expr}, (assignEach es env).length = es.length
  | [] => rfl
  | e :: es => by
    cases e <;> exact congrArg (· + 1) (assign_len (es := es))
theorem assign_nostar {env : Env} : ∀ {es : List Expr}, es.any isStar = false → (assignEach es env).findIdx? (·.1) = none
  | [], _ => rfl
  | e :: es, h => by
    rw [List.any_cons, Bool.or_eq_false_iff] at h
    rw [assign_cons h.1, List.findIdx?_cons, assign_nostar h.2]
    rfl
theorem gAll_len : ∀ {gs : List TGt} {vs : List PV} {sg sg' : Sg}, gAll gs vs sg = some sg' → vs.length = gs.length
  | [], [], _, _, _ => rfl
  | [], _ :: _, _, _, e => by cases e
  | _ :: _, [], _, _, e => by cases e
  | g :: gs, v :: vs, sg, sg', e => by
    have e : (g v sg).bind (fun σ' => gAll gs vs σ') = some sg' := e
    obtain ⟨sg1, e1, e2⟩ := Option.bind_eq_some_iff.mp e
    exact congrArg (· + 1) (gAll_len e2)
theorem EachG.length : ∀ {es : List Expr} {gs : List TGt} {S : List Nat}, EachG X T es gs S → es.length = gs.length
  | _, _, _, .nil => rfl
  | _, _, _, .cons _ t => congrArg (· + 1) (EachG.length t)
theorem g_tup {es : List Expr} {gs : List TGt} {S : List Nat} {k : Nat} (hc : X.calm = true) (h : EachG X T es gs S) (hs : es.any isStar = false) : L2.PG X (.Tuple es k pos) (tG X T (gTp gs) S) :=
  PG.imp (L2.pg_tup hc (gs_all h hs) assign_len (assign_nostar hs)) fun x σ H Q ⟨hd, ρ, h', v, sg, sg', rh, rv, rs, e, q⟩ => by
    unfold gTp at e
    split at e
    · rename_i vs
      obtain ⟨a, xs, rfl, hq, rvs⟩ := rv_tup rv
      exact ⟨a, xs, rfl, hq, by rw [rvs.length, gAll_len e, h.length], hd, ρ, h', vs, sg, sg', rh, rvs, rs, e, q⟩
    · cases e
/-! ### statements -/
/-- what is wanted behind a statement -/
def PostS (B : Bs) (E : XK) (D : L2.Ends) (ρ : List Addr) (H : Hp) (r : SR) : Prop := match r with
  | .nx sg h => ∀ ρ' H' σ, Step B ρ H ρ' H' → RH B ρ' h H' → RS B ρ' H' sg σ → D.nx σ H'
  | .ret v h => ∀ ρ' H' x, Step B ρ H ρ' H' → RH B ρ' h H' → RV B ρ' H' x v → D.rt x H'
  | .brk sg h => ∀ ρ' H' σ, Step B ρ H ρ' H' → RH B ρ' h H' → RS B ρ' H' sg σ → D.bk σ H'
  | .ct sg h => ∀ ρ' H' σ, Step B ρ H ρ' H' → RH B ρ' h H' → RS B ρ' H' sg σ → D.ct σ H'
  | .exc e h => ∀ ρ' H' cls d, Step B ρ H ρ' H' → RH B ρ' h H' → RX B ρ' H' cls d e → E cls d H'
  | .stuck => False
theorem PostS.step {B : Bs} {D : L2.Ends} {ρ ρ' : List Addr} {H H' : Hp} {r : SR} (p : PostS B E D ρ H r) (s : Step B ρ H ρ' H') : PostS B E D ρ' H' r := by
  cases r with
  | nx _ _ => exact fun ρ2 H2 σ t a b => p ρ2 H2 σ (s.trans t) a b
  | ret _ _ => exact fun ρ2 H2 σ t a b => p ρ2 H2 σ (s.trans t) a b
  | brk _ _ => exact fun ρ2 H2 σ t a b => p ρ2 H2 σ (s.trans t) a b
  | ct _ _ => exact fun ρ2 H2 σ t a b => p ρ2 H2 σ (s.trans t) a b
  | exc _ _ => exact fun ρ2 H2 c d t a b => p ρ2 H2 c d (s.trans t) a b
  | stuck => exact p
def tS (X : L2.Cx) (T : Tx) (E : XK) (f : SS) : L2.TS := fun D σ H => ∃ hd ρ sg h, RS (bW X T hd) ρ H sg σ ∧ RH (bW X T hd) ρ h H ∧ PostS (bW X T hd) E D ρ H (f sg h)
/-- a value, then the rest -/
theorem PostS.thn {α β : Type} {B : Bs} {RA : List Addr → Hp → β → α → Prop} {D : L2.Ends} {ρ : List Addr} {H : Hp} {h : Hv} {x : M α} {f : α → Hv → SR} (p : PostS B E D ρ H ((x.thn f) h)) :
    PostR B RA E ρ H (x h) (fun b H1 => ∃ ρ1 h1 a, Step B ρ H ρ1 H1 ∧ RH B ρ1 h1 H1 ∧ RA ρ1 H1 b a ∧ PostS B E D ρ1 H1 (f a h1)) := by
  have e : (x.thn f) h = (match x h with
    | .ok a h' => f a h'
    | .exc e h' => .exc e h'
    | .stuck => .stuck) := rfl
  rw [e] at p
  cases q : x h with
  | ok a h' =>
    rw [q] at p
    exact fun ρ1 H1 b s r ra => ⟨ρ1, h', a, s, r, ra, p.step s⟩
  | exc e h' =>
    rw [q] at p
    exact p
  | stuck =>
    rw [q] at p
    exact p
theorem s_nil : L2.PSs X [] (tS X T E sNil) := ⟨fun pins s σ H D I ⟨hd, ρ, sg, h, rs, rh, p⟩ => L2.pss_nil.run pins s σ H D I (p ρ H σ .refl rh rs)⟩
theorem s_pass : L2.PS X (.Pass pos) (tS X T E sNil) := PS.imp L2.ps_pass fun D σ H ⟨hd, ρ, sg, h, rs, rh, p⟩ => p ρ H σ .refl rh rs
theorem s_brk : L2.PS X (.Break pos) (tS X T E sBrk) := PS.imp L2.ps_break fun D σ H ⟨hd, ρ, sg, h, rs, rh, p⟩ => p ρ H σ .refl rh rs
theorem s_ct : L2.PS X (.Continue pos) (tS X T E sCt) := PS.imp L2.ps_continue fun D σ H ⟨hd, ρ, sg, h, rs, rh, p⟩ => p ρ H σ .refl rh rs
theorem s_retN : L2.PS X (.Return none pos) (tS X T E sRetN) := PS.imp L2.ps_retN fun D σ H ⟨hd, ρ, sg, h, rs, rh, p⟩ => p ρ H _ .refl rh .non
theorem s_ret {e : Expr} {f : ES} (he : L2.PE X e (tEX X T E f)) : L2.PS X (.Return (some e) pos) (tS X T E (sRet f)) :=
  PS.imp (L2.ps_ret he) fun D σ H ⟨hd, ρ, sg, h, rs, rh, p⟩ => ⟨hd, ρ, sg, h, rs, rh, (PostS.thn (RA := RV (bW X T hd)) p).mono fun x H1 ⟨ρ1, h1, v, s1, r1, rv, p1⟩ => p1 ρ1 H1 x .refl r1 rv⟩
theorem no_swap {e : Expr} {t : Option Expr} {n : Nat} {env : Env} (h : isComp e = false) : swapsWith e t n env = pure false := by
  cases e <;> first | rfl | cases h
theorem s_expr {e : Expr} {f : ES} (he : L2.PE X e (tEX X T E f)) (hc : isComp e = false) : L2.PS X (.Expr e pos) (tS X T E (sExpr f)) :=
  PS.imp (L2.ps_expr he (no_swap hc)) fun D σ H ⟨hd, ρ, sg, h, rs, rh, p⟩ => ⟨hd, ρ, sg, h, rs, rh, (PostS.thn (RA := RV (bW X T hd)) p).mono fun x H1 ⟨ρ1, h1, v, s1, r1, rv, p1⟩ => p1 ρ1 H1 σ .refl r1 (rs.step s1)⟩
theorem s_seq {st : Stmt} {rest : List Stmt} {f g : SS} (h1 : L2.PS X st (tS X T E f)) (h2 : L2.PSs X rest (tS X T E g)) : L2.PSs X (st :: rest) (tS X T E (sSeq f g)) := by
  refine ⟨fun pins s σ H D I ⟨hd, ρ, sg, h, rs, rh, p⟩ => (L2.pss_cons h1 h2).run pins s σ H D I ⟨hd, ρ, sg, h, rs, rh, ?_⟩⟩
  have p : PostS (bW X T hd) E D ρ H ((f sg h).then g) := p
  cases q : f sg h with
  | nx sg1 h1 =>
    rw [q] at p
    exact fun ρ1 H1 σ1 s1 r1 rs1 => ⟨hd, ρ1, sg1, h1, rs1, r1, PostS.step p s1⟩
  | ret _ _ => rw [q] at p; exact p
  | brk _ _ => rw [q] at p; exact p
  | ct _ _ => rw [q] at p; exact p
  | exc _ _ => rw [q] at p; exact p
  | stuck => rw [q] at p; exact p
theorem s_if {t : Expr} {a b : List Stmt} {c : TSm} {f g : SS} (ht : L2.PT X t (tTX X T E c)) (ha : L2.PSs X a (tS X T E f)) (hb : L2.PSs X b (tS X T E g)) : L2.PS X (.If t a b pos) (tS X T E (sIf c f g)) :=
  PS.imp (L2.ps_if ht ha hb) fun D σ H ⟨hd, ρ, sg, h, rs, rh, p⟩ => ⟨hd, ρ, sg, h, rs, rh, (PostS.thn (RA := RB) p).mono fun x H1 ⟨ρ1, h1, v, s1, r1, rv, p1⟩ => by
    have rv : x = v := rv
    subst rv
    cases x with
    | true => exact ⟨hd, ρ1, sg, h1, rs.step s1, r1, p1⟩
    | false => exact ⟨hd, ρ1, sg, h1, rs.step s1, r1, p1⟩⟩
/-- the store behind a value -/
theorem asg_in {f : ES} {g : TGt} {S : List Nat} {D : L2.Ends} {σ : L2.St} {H : Hp} (q : tS X T E (sAsg g f) D σ H) : tEX X T E f σ H fun x H1 => tG X T g S x σ H1 D.nx := by
  obtain ⟨hd, ρ, sg, h, rs, rh, p⟩ := q
  refine ⟨hd, ρ, sg, h, rs, rh, (PostS.thn (RA := RV (bW X T hd)) p).mono fun x H1 ⟨ρ1, h1, v, s1, r1, rv, p1⟩ => ?_⟩
  have p1 : PostS (bW X T hd) E D ρ1 H1 (match g v sg with
    | some σ' => .nx σ' h1
    | none => .stuck) := p1
  cases e : g v sg with
  | some sg' =>
    rw [e] at p1
    exact ⟨hd, ρ1, h1, v, sg, sg', r1, rv, rs.step s1, e, fun σ' rs' _ _ => p1 ρ1 H1 σ' .refl r1 rs'⟩
  | none =>
    rw [e] at p1
    exact p1.elim
theorem no_stores {tg e : Expr} {env : Env} (h : isTupE e = false ∨ ∀ ts k p, tg ≠ .Tuple ts k p) (h2 : ∀ ts p, tg ≠ .List ts p) : swappedStores [tg] e env = pure none := by
  unfold swappedStores
  cases tg with
  | Tuple ts k p =>
    cases e <;> first | rfl | (rcases h with h | h; cases h; exact absurd rfl (h _ _ _))
  | List ts p => exact absurd rfl (h2 _ _)
  | _ => cases e <;> rfl
theorem assign_one {tg : Expr} {env : Env} (h : isStar tg = false) : (assignEach [tg] env).map (·.2) = [assign tg env] := by
  rw [assign_cons h]
  rfl
theorem s_asg {tg e : Expr} {f : ES} {g : TGt} {S : List Nat} (he : L2.PE X e (tEX X T E f)) (hg : L2.PG X tg (tG X T g S)) (hc : isComp e = false) (hs : isStar tg = false) (h : isTupE e = false ∨ ∀ ts k p, tg ≠ .Tuple ts k p) (h2 : ∀ ts p, tg ≠ .List ts p) : L2.PS X (.Assign [tg] e pos) (tS X T E (sAsg g f)) :=
  PS.imp (L2.ps_asg he hg (no_swap hc) (no_stores h h2) (assign_one hs)) fun D σ H q => asg_in q
/-! ### stores into objects -/
theorem p_set (hu : X.A.units + 200 < cLine) : L2.PSet X (fun o i v H Q => ∃ hd ρ h po pi pv, RH (bW X T hd) ρ h H ∧ RV (bW X T hd) ρ H o po ∧ RV (bW X T hd) ρ H i pi ∧ RV (bW X T hd) ρ H v pv ∧ PostR (bW X T hd) (fun _ _ (_ : Unit) (_ : Unit) => True) E ρ H (setItem po pi pv h) fun _ H' => Q H') := by
  intro pins s σ H o i v ov iv u Q I ro ri rv ⟨hd, ρ, h, po, pi, pv, rh, r1, r2, r3, p⟩
  exact set_at hu I ro ri rv rh r1 r2 r3 p
theorem s_put {o i e : Expr} {x y z : ES} {p2 : Pos} (hu : X.A.units + 200 < cLine) (ho : L2.PE X o (tEX X T E x)) (hi : L2.PE X i (tEX X T E y)) (he : L2.PE X e (tEX X T E z)) (hc : isComp e = false) (hsl : isSlice i = false) : L2.PS X (.Assign [.Subscript o i p2] e pos) (tS X T E (sPut x y z)) := by
  have sw : swapsWithSole [.Subscript o i p2] e pos.line X.env = pure false := no_swap (t := some (.Subscript o i p2)) (n := pos.line) (env := X.env) hc
  refine PS.imp (L2.ps_asg he (L2.pg_sub (pos := p2) ho hi (p_set (T := T) (E := E) hu) ?_) sw (no_stores (.inr fun _ _ _ z => nomatch z) fun _ _ z => nomatch z) rfl) fun D σ H ⟨hd, ρ, sg, h, rs, rh, p⟩ => ?_
  · intro v
    cases i <;> first | rfl | cases hsl
  · refine ⟨hd, ρ, sg, h, rs, rh, (PostS.thn (RA := RV (bW X T hd)) p).mono fun a H1 ⟨ρ1, h1, va, s1, r1, rva, p1⟩ => ?_⟩
    refine ⟨hd, ρ1, sg, h1, rs.step s1, r1, (PostS.thn (RA := RV (bW X T hd)) p1).mono fun b H2 ⟨ρ2, h2, vb, s2, r2, rvb, p2⟩ => ?_⟩
    refine ⟨hd, ρ2, sg, h2, rs.step (s1.trans s2), r2, (PostS.thn (RA := RV (bW X T hd)) p2).mono fun c H3 ⟨ρ3, h3, vc, s3, r3, rvc, p3⟩ => ?_⟩
    refine ⟨hd, ρ3, h3, vb, vc, va, r3, rvb.step s3, rvc, rva.step (s2.trans s3), (PostS.thn (RA := fun _ _ (_ : Unit) (_ : Unit) => True) p3).mono fun _ H4 ⟨ρ4, h4, _, s4, r4, _, p4⟩ => ?_⟩
    exact p4 ρ4 H4 σ .refl r4 (rs.step (s1.trans (s2.trans (s3.trans s4))))
/-! ### loops -/
theorem s_while {t : Expr} {body : List Stmt} {c : TSm} {f : SS} (hp : PassesOwn (model X.prog X.w) X.A X.env X.xe) (ht : L2.PT X t (tTX X T E c)) (hb : L2.PSs X body (tS X T E f)) : L2.PS X (.While t body [] pos) (tS X T E (sWhile c f)) :=
  PS.imp (L2.ps_while hp ht hb) fun D σ H ⟨hd, ρ, sg, h, rs, rh, p⟩ => by
    refine ⟨fun m σ H => ∃ ρ sg h, RS (bW X T hd) ρ H sg σ ∧ RH (bW X T hd) ρ h H ∧ PostS (bW X T hd) E D ρ H (whileL c f m sg h), ⟨turnsMost, ρ, sg, h, rs, rh, p⟩, ?_⟩
    rintro m σ H ⟨ρ, sg, h, rs, rh, p⟩
    cases m with
    | zero => exact p.elim
    | succ m =>
      refine ⟨hd, ρ, sg, h, rs, rh, (PostS.thn (RA := RB) p).mono fun x H1 ⟨ρ1, h1, v, s1, r1, rv, p1⟩ => ?_⟩
      have rv : x = v := rv
      subst rv
      cases x with
      | false => exact p1 ρ1 H1 σ .refl r1 (rs.step s1)
      | true =>
        refine ⟨fun σ H => ∃ ρ sg h, RS (bW X T hd) ρ H sg σ ∧ RH (bW X T hd) ρ h H ∧ PostS (bW X T hd) E D ρ H (whileL c f m sg h), fun σ' H' q => ⟨m, Nat.lt_succ_self m, q⟩, hd, ρ1, sg, h1, rs.step s1, r1, ?_⟩
        have p1 : PostS (bW X T hd) E D ρ1 H1 (match f sg h1 with
          | .nx σ2 h2 => whileL c f m σ2 h2
          | .ct σ2 h2 => whileL c f m σ2 h2
          | .brk σ2 h2 => .nx σ2 h2
          | r => r) := p1
        cases q : f sg h1 with
        | nx sg2 h2 => rw [q] at p1; exact fun ρ2 H2 σ2 s2 r2 rs2 => ⟨ρ2, sg2, h2, rs2, r2, PostS.step p1 s2⟩
        | ct sg2 h2 => rw [q] at p1; exact fun ρ2 H2 σ2 s2 r2 rs2 => ⟨ρ2, sg2, h2, rs2, r2, PostS.step p1 s2⟩
        | brk sg2 h2 => rw [q] at p1; exact p1
        | ret v h2 => rw [q] at p1; exact p1
        | exc e h2 => rw [q] at p1; exact p1
        | stuck => rw [q] at p1; exact p1
theorem drop_get {α : Type} {xs : List α} {i : Nat} (h : i < xs.length) : xs.drop i = xs[i] :: xs.drop (i + 1) := List.drop_eq_getElem_cons h
open Classical in
theorem s_for {tg it : Expr} {body : List Stmt} {i : IS} {g : TGt} {S : List Nat} {f : SS} (hp : PassesOwn (model X.prog X.w) X.A X.env X.xe) (hc : X.calm = true) (hi : L2.PI X tg it (tIX X T E i)) (hg : L2.PG X tg (tG X T g S)) (hb : L2.PSs X body (tS X T E f)) (hs : isSetD it = false) :
    L2.PS X (.For tg it body [] pos) (tS X T E (sFor i g f)) :=
  PS.imp (L2.ps_for hp hc hi hg hb (no_fold hs)) fun D σ H ⟨hd, ρ, sg, h, rs, rh, p⟩ => by
    refine ⟨hd, ρ, sg, h, rs, rh, (PostS.thn (RA := fun ρ' H' (J : L2.It) (p : List PV × Src) => WF (bW X T hd) ρ' H' J p.1 p.2) p).mono fun J H1 ⟨ρ1, h1, pr, s1, r1, wf, p1⟩ => ?_⟩
    obtain ⟨xs, src⟩ := pr
    refine ⟨fun n m σ H => n ≤ xs.length ∧ m = xs.length - n ∧ ∃ ρ sg h, RS (bW X T hd) ρ H sg σ ∧ RH (bW X T hd) ρ h H ∧ WF (bW X T hd) ρ H J xs src ∧ PostS (bW X T hd) E D ρ H (forL src g f (xs.drop n) sg h), ⟨xs.length, Nat.zero_le _, rfl, ρ1, sg, h1, rs.step s1, r1, wf, p1⟩, ?_⟩
    rintro n m σ H ⟨hn, rfl, ρ, sg, h, rs, rh, wf, p⟩
    by_cases hlt : n < xs.length
    · rw [drop_get hlt] at p
      unfold forL at p
      split at p
      · rename_i ok
        obtain ⟨w1, w2⟩ := (wf.use rh ok).1 n _ (List.getElem?_eq_getElem hlt)
        refine .inr ⟨w1, fun σ' H' => n + 1 ≤ xs.length ∧ xs.length - (n + 1) = xs.length - (n + 1) ∧ ∃ ρ sg h, RS (bW X T hd) ρ H' sg σ' ∧ RH (bW X T hd) ρ h H' ∧ WF (bW X T hd) ρ H' J xs src ∧ PostS (bW X T hd) E D ρ H' (forL src g f (xs.drop (n + 1)) sg h), fun σ' H' q => ⟨_, by omega, q⟩, fun x H2 hy => ?_⟩
        obtain ⟨s2, r2, rv⟩ := w2 x H2 hy
        cases e : g xs[n] sg with
        | none => rw [e] at p; exact p.elim
        | some sg1 =>
          rw [e] at p
          refine ⟨hd, ρ, h, _, sg, sg1, r2, rv, rs.step s2, e, fun σ1 rs1 _ _ => ⟨hd, ρ, sg1, h, rs1, r2, ?_⟩⟩
          have p : PostS (bW X T hd) E D ρ H (match f sg1 h with
            | .nx σ2 h2 => forL src g f (xs.drop (n + 1)) σ2 h2
            | .ct σ2 h2 => forL src g f (xs.drop (n + 1)) σ2 h2
            | .brk σ2 h2 => .nx σ2 h2
            | r => r) := p
          have p := PostS.step p s2
          cases q : f sg1 h with
          | nx sg2 h2 => rw [q] at p; exact fun ρ3 H3 σ3 s3 r3 rs3 => ⟨hlt, rfl, ρ3, sg2, h2, rs3, r3, wf.step (s2.trans s3), PostS.step p s3⟩
          | ct sg2 h2 => rw [q] at p; exact fun ρ3 H3 σ3 s3 r3 rs3 => ⟨hlt, rfl, ρ3, sg2, h2, rs3, r3, wf.step (s2.trans s3), PostS.step p s3⟩
          | brk sg2 h2 => rw [q] at p; exact p
          | ret v h2 => rw [q] at p; exact p
          | exc e h2 => rw [q] at p; exact p
          | stuck => rw [q] at p; exact p
      · exact p.elim
    · have en : n = xs.length := by omega
      subst en
      rw [List.drop_length] at p
      unfold forL at p
      split at p
      · rename_i ok
        exact .inl ⟨(wf.use rh ok).2, p ρ H σ .refl rh rs⟩
      · exact p.elim
end
end HS
end
-- text EvComp
section
set_option Elab.async false
set_option linter.all false
set_option maxRecDepth 100000

/-! Comprehensions; a, b = x, y. -/
namespace HS
open PySem PySem.Spec PyProof.Rows
open Classical
section
variable {X : L2.Cx} {T : Tx} {E : XK} {pos : Pos}
theorem bnd_assoc {α β γ : Type} (x : M α) (f : α → M β) (g : β → M γ) : (x.bnd f).bnd g = x.bnd fun a => (f a).bnd g := by
  funext h
  unfold M.bnd
  cases x h <;> rfl
theorem bnd_ok {α β : Type} {x : M α} {f : α → M β} {h h' : Hv} {a : α} (e : x h = .ok a h') : (x.bnd f) h = f a h' := by unfold M.bnd; rw [e]
theorem bnd_exc {α β : Type} {x : M α} {f : α → M β} {h h' : Hv} {a : PV} (e : x h = .exc a h') : (x.bnd f) h = .exc a h' := by unfold M.bnd; rw [e]
theorem bnd_stk {α β : Type} {x : M α} {f : α → M β} {h : Hv} (e : x h = .stuck) : (x.bnd f) h = .stuck := by unfold M.bnd; rw [e]
theorem nox_exc {α : Type} {x : M α} {h h' : Hv} {a : PV} (e : x h = .exc a h') : x.nox h = .stuck := by unfold M.nox; rw [e]
theorem nox_ok {α : Type} {x : M α} {h h' : Hv} {a : α} (e : x h = .ok a h') : x.nox h = .ok a h' := by unfold M.nox; rw [e]
theorem nox_stk {α : Type} {x : M α} {h : Hv} (e : x h = .stuck) : x.nox h = .stuck := by unfold M.nox; rw [e]
theorem nox_ne {α : Type} {x : M α} {h h' : Hv} {a : PV} : x.nox h ≠ .exc a h' := fun z => by
  cases e : x h with
  | ok b h2 => rw [nox_ok e] at z; cases z
  | exc b h2 => rw [nox_exc e] at z; cases z
  | stuck => rw [nox_stk e] at z; cases z
theorem bnd_ne {α β : Type} {x : M α} {f : α → M β} {h h' : Hv} {e : PV} (hx : ∀ e h', x h ≠ .exc e h') (hf : ∀ a h2, f a h2 ≠ .exc e h') : (x.bnd f) h ≠ .exc e h' := fun z => by
  cases q : x h with
  | ok a h2 => rw [bnd_ok q] at z; exact hf a h2 z
  | exc b h2 => exact hx b h2 q
  | stuck => rw [bnd_stk q] at z; cases z
/-- as bndH, of a run that may raise nothing -/
theorem PostR.bndN {α β γ δ : Type} {B : Bs} {E2 : XK} {p : Addr} {o : HO} {ρ0 ρ1 : List Addr} {H0 H1 : Hp} {h1 : Hv} {RA : List Addr → Hp → β → α → Prop} {RG : List Addr → Hp → δ → γ → Prop} {x : M α} {f : α → M γ} {Q : δ → Hp → Prop} (q : PostR B RG E ρ0 H0 (((x.nox).bnd f) h1) Q) (t : Thru B p ρ0 H0 ρ1 H1) (hp : H1 p = some o) (n : NoTab o)
    (hR : RH (B.hide p) ρ1 h1 H1) : PostR (B.hide p) RA E2 ρ1 H1 (x h1) fun b H2 => ∃ ρ2 h2 a, Thru B p ρ0 H0 ρ2 H2 ∧ H2 p = some o ∧ Step (B.hide p) ρ1 H1 ρ2 H2 ∧ RH (B.hide p) ρ2 h2 H2 ∧ RA ρ2 H2 b a ∧ PostR B RG E ρ0 H0 (f a h2) Q := by
  have w := PostR.bndH (RA := RA) q t hp n hR
  cases qx : x h1 with
  | ok a h' => rw [nox_ok qx] at w; exact w
  | exc e h' => rw [nox_exc qx] at w; exact w.elim
  | stuck => rw [nox_stk qx] at w; exact w
theorem bnd_at {α β : Type} {x y : M α} {f : α → M β} {h : Hv} (e : x h = y h) : (x.bnd f) h = (y.bnd f) h := by unfold M.bnd; rw [e]
/-- a turn -/
noncomputable def turnL (src : Src) (g : TGt) (t : TSm) (e : ES) (σ σ' : Sg) (xs : List PV) : M (List PV) := ((t σ').nox).bnd fun b => if b then ((e σ').nox).bnd fun y => (compL src g t e σ xs).bnd fun ys => .ret (y :: ys) else compL src g t e σ xs
theorem compL_go {src : Src} {g : TGt} {t : TSm} {e : ES} {σ σ' : Sg} {x : PV} {xs : List PV} {h : Hv} (ok : srcOk h src) (eg : g x σ = some σ') : compL src g t e σ (x :: xs) h = turnL src g t e σ σ' xs h := by
  have z : compL src g t e σ (x :: xs) h = (if srcOk h src then (match g x σ with
    | some σ' => turnL src g t e σ σ' xs h
    | none => .stuck) else .stuck) := rfl
  rw [z, if_pos ok, eg]
theorem compL_none {src : Src} {g : TGt} {t : TSm} {e : ES} {σ : Sg} {x : PV} {xs : List PV} {h : Hv} (eg : g x σ = none) : compL src g t e σ (x :: xs) h = .stuck := by
  have z : compL src g t e σ (x :: xs) h = (if srcOk h src then (match g x σ with
    | some σ' => turnL src g t e σ σ' xs h
    | none => .stuck) else .stuck) := rfl
  rw [z, eg]
  split <;> rfl
theorem compL_no {src : Src} {g : TGt} {t : TSm} {e : ES} {σ : Sg} {xs : List PV} {h : Hv} (ok : ¬ srcOk h src) : compL src g t e σ xs h = .stuck := by
  cases xs with
  | nil =>
    have z : compL src g t e σ [] h = (if srcOk h src then .ok [] h else .stuck) := rfl
    rw [z, if_neg ok]
  | cons x xs =>
    have z : compL src g t e σ (x :: xs) h = (if srcOk h src then (match g x σ with
      | some σ' => turnL src g t e σ σ' xs h
      | none => .stuck) else .stuck) := rfl
    rw [z, if_neg ok]
theorem compL_nil {src : Src} {g : TGt} {t : TSm} {e : ES} {σ : Sg} {h : Hv} (ok : srcOk h src) : compL src g t e σ [] h = .ok [] h := by
  have z : compL src g t e σ [] h = (if srcOk h src then .ok [] h else .stuck) := rfl
  rw [z, if_pos ok]
theorem turnL_bnd {β : Type} {src : Src} {g : TGt} {t : TSm} {e : ES} {σ σ' : Sg} {xs : List PV} (f : List PV → M β) : (turnL src g t e σ σ' xs).bnd f = ((t σ').nox).bnd fun b => if b then ((e σ').nox).bnd fun y => (compL src g t e σ xs).bnd fun ys => f (y :: ys) else (compL src g t e σ xs).bnd f := by
  unfold turnL
  rw [bnd_assoc]
  congr 1
  funext b
  cases b with
  | false => rfl
  | true =>
    rw [if_pos rfl, if_pos rfl, bnd_assoc]
    congr 1
    funext y
    rw [bnd_assoc]
    rfl
theorem compL_nox {src : Src} {g : TGt} {t : TSm} {e : ES} {σ : Sg} : ∀ (xs : List PV) (h h' : Hv) (x : PV), compL src g t e σ xs h ≠ .exc x h' := by
  intro xs
  induction xs with
  | nil =>
    intro h h' x z
    unfold compL at z
    split at z <;> cases z
  | cons y ys ih =>
    intro h h' x z
    unfold compL at z
    split at z
    · split at z
      · refine bnd_ne (fun _ _ => nox_ne) (fun b h2 => ?_) z
        cases b with
        | false => exact ih h2 h' x
        | true => exact bnd_ne (fun _ _ => nox_ne) fun v h3 => bnd_ne (fun a h4 => ih h3 h4 a) fun a h4 z => by cases z
      · cases z
    · cases z
theorem len_of {B : Bs} {m : Bool} {ρ : List Addr} {H : Hp} {h : Hv} {x : M (List PV)} {acc : List PV} {Q : L2.VK} (nx : ∀ e h', x h ≠ .exc e h') (p : PostV B E ρ H ((x.bnd fun ys => mkL m (acc ++ ys)) h) Q) : acc.length ≤ sizeLine := by
  unfold M.bnd at p
  cases q : x h with
  | ok ys h' =>
    rw [q] at p
    have p : PostV B E ρ H (mkL m (acc ++ ys) h') Q := p
    unfold mkL at p
    by_cases hz : (acc ++ ys).length ≤ sizeLine
    · rw [List.length_append] at hz
      omega
    · rw [if_neg hz] at p
      exact p.elim
  | exc e h' => exact absurd q (nx e h')
  | stuck =>
    rw [q] at p
    exact p.elim
theorem wipe_get {σ : L2.St} : ∀ (vs : List Nat) (j : Nat), (L2.wipe σ vs)[j]? = if j ∈ vs then (σ[j]?).map (fun _ => none) else σ[j]?
  | [], j => by rw [if_neg (by simp)]; rfl
  | v :: vs, j => by
    have e : L2.wipe σ (v :: vs) = (L2.wipe σ vs).set v none := rfl
    rw [e]
    by_cases hj : v = j
    · subst hj
      rw [if_pos (List.mem_cons_self ..)]
      by_cases hl : v < σ.length
      · rw [List.getElem?_set_self (by rw [L2.wipe_length]; exact hl), List.getElem?_eq_getElem hl]
        rfl
      · rw [List.getElem?_eq_none (by rw [List.length_set, L2.wipe_length]; omega), List.getElem?_eq_none (by omega)]
        rfl
    · rw [List.getElem?_set_ne hj, wipe_get vs j]
      by_cases hm : j ∈ vs
      · rw [if_pos hm, if_pos (List.mem_cons_of_mem _ hm)]
      · rw [if_neg hm, if_neg fun z => (List.mem_cons.mp z).elim (fun e => hj e.symm) hm]
theorem wipe_eq {σ τ : L2.St} {vs S : List Nat} (hS : ∀ i ∈ S, i ∈ vs) (hl : τ.length = σ.length) (k : ∀ j, j ∉ S → τ[j]? = (L2.wipe σ vs)[j]?) : L2.wipe τ vs = L2.wipe σ vs := by
  refine List.ext_getElem? fun j => ?_
  rw [wipe_get vs j, wipe_get vs j]
  by_cases hj : j ∈ vs
  · rw [if_pos hj, if_pos hj]
    by_cases hl2 : j < σ.length
    · rw [List.getElem?_eq_getElem hl2, List.getElem?_eq_getElem (by omega)]
      rfl
    · rw [List.getElem?_eq_none (by omega), List.getElem?_eq_none (by omega)]
  · rw [if_neg hj, if_neg hj, k j fun z => hj (hS j z), wipe_get vs j, if_neg hj]
/-- the turns of a comprehension -/
theorem lc_in {m : Bool} {vs S : List Nat} {i : IS} {g : TGt} {t : TSm} {e : ES} {σ : L2.St} {H : Hp} {Q : L2.VK} (hS : ∀ i ∈ S, i ∈ vs) (q : tEX X T E (eComp m vs i g t e) σ H Q) :
    L2.tLc (tIX X T E i) (tG X T g S) (tTX X T (fun _ _ _ => False) t) (tEX X T (fun _ _ _ => False) e) vs σ H Q := by
  obtain ⟨hd, ρ, sg, h, rs, rh, p⟩ := q
  refine ⟨hd, ρ, sg, h, rs, rh, (PostR.bnd (RA := fun ρ' H' (J : L2.It) (p : List PV × Src) => WF (bW X T hd) ρ' H' J p.1 p.2) p).mono fun J H1 ⟨ρ1, h1, pr, s1, r1, wf, p1⟩ => ?_⟩
  obtain ⟨xs, src⟩ := pr
  intro D hD
  have rs1 := rs.step s1
  refine ⟨fun n k H => n ≤ xs.length ∧ k = xs.length - n ∧ ∃ ρ h acc accv, Thru (bW X T hd) D ρ1 H1 ρ H ∧ H D = some (.lst acc) ∧ RH (bW X T (D :: hd)) ρ h H ∧ RVs (bW X T (D :: hd)) ρ H acc accv ∧ RS (bW X T (D :: hd)) ρ H (wipeS sg vs) (L2.wipe σ vs) ∧
    WF (bW X T (D :: hd)) ρ H J xs src ∧ PostV (bW X T hd) E ρ1 H1 (((compL src g t e (wipeS sg vs) (xs.drop n)).bnd fun ys => mkL m (accv ++ ys)) h) Q, ⟨xs.length, Nat.zero_le _, rfl, ρ1, h1, [], [], Thru.start hD, L2.upd_same, RH.hide (B := bW X T hd) r1 hD noTab_lst, .nil, (RS.hide (B := bW X T hd) rs1 hD).wipe vs, WF.move (B := bW X T hd) (B' := bW X T (D :: hd)) (alike_hide (B := bW X T hd)) (hide_at (B := bW X T hd) hD) wf, p1⟩, ?_⟩
  rintro n k H ⟨hn, rfl, ρ, h, acc, accv, th, hDl, rh, ra, rsw, wf, p⟩
  by_cases hlt : n < xs.length
  · rw [drop_get hlt] at p
    by_cases ok : srcOk h src
    · obtain ⟨w1, w2⟩ := (wf.use rh ok).1 n _ (List.getElem?_eq_getElem hlt)
      refine .inr ⟨w1, fun H' => n + 1 ≤ xs.length ∧ xs.length - (n + 1) = xs.length - (n + 1) ∧ ∃ ρ h acc accv, Thru (bW X T hd) D ρ1 H1 ρ H' ∧ H' D = some (.lst acc) ∧ RH (bW X T (D :: hd)) ρ h H' ∧ RVs (bW X T (D :: hd)) ρ H' acc accv ∧ RS (bW X T (D :: hd)) ρ H' (wipeS sg vs) (L2.wipe σ vs) ∧
        WF (bW X T (D :: hd)) ρ H' J xs src ∧ PostV (bW X T hd) E ρ1 H1 (((compL src g t e (wipeS sg vs) (xs.drop (n + 1))).bnd fun ys => mkL m (accv ++ ys)) h) Q, fun H' q => ⟨_, by omega, q⟩, fun x H2 hy => ?_⟩
      obtain ⟨s2, r2, rv⟩ := w2 x H2 hy
      have hD2 : H2 D = some (.lst acc) := s2.keep D _ (RH.hidden (B := bW X T hd) rh) ne_tbl_lst hDl
      have th2 := th.step (B := bW X T hd) (ρ2 := ρ) ⟨s2.pre, s2.keep, s2.new, s2.live, s2.tabs⟩ hD2 noTab_lst
      cases eg : g xs[n] (wipeS sg vs) with
      | none =>
        rw [bnd_stk (compL_none eg)] at p
        exact p.elim
      | some sg1 =>
        rw [bnd_at (compL_go ok eg), turnL_bnd] at p
        have p2 := p
        refine ⟨D :: hd, ρ, h, _, wipeS sg vs, sg1, r2, rv, rsw.step s2, eg, fun σ2 rs2 l2 k2 => ⟨wipe_eq hS (by rw [l2, L2.wipe_length]) k2, ?_⟩⟩
        refine ⟨D :: hd, ρ, sg1, h, rs2, r2, (PostR.bndN (B := bW X T hd) (RA := RB) p2 th2 hD2 noTab_lst r2).mono fun b H3 ⟨ρ3, h3, b', th3, hD3, s3, r3, eb, p3⟩ => ?_⟩
        have eb : b = b' := eb
        subst eb
        cases b with
        | false => exact ⟨hlt, rfl, ρ3, h3, acc, accv, th3, hD3, r3, ra.step (s2.trans s3), rsw.step (s2.trans s3), wf.step (s2.trans s3), p3⟩
        | true =>
          rw [if_pos rfl] at p3 ⊢
          refine ⟨D :: hd, ρ3, sg1, h3, rs2.step s3, r3, (PostR.bndN (B := bW X T hd) (RA := RV (bW X T (D :: hd))) p3 th3 hD3 noTab_lst r3).mono fun y H4 ⟨ρ4, h4, yv, th4, hD4, s4, r4, ry, p4⟩ => ?_⟩
          have p5 : PostV (bW X T hd) E ρ1 H1 (((compL src g t e (wipeS sg vs) (xs.drop (n + 1))).bnd fun ys => mkL m ((accv ++ [yv]) ++ ys)) h4) Q := by
            have e2 : (fun ys => mkL m ((accv ++ [yv]) ++ ys)) = fun ys => mkL m (accv ++ (yv :: ys)) := by
              funext ys
              rw [List.append_assoc]
              rfl
            rw [e2]
            exact p4
          have hlen := len_of (fun e h' => compL_nox _ _ _ _) p5
          have ra4 := ra.step (s2.trans (s3.trans s4))
          refine ⟨acc, hD4, by rw [List.length_append] at hlen; rw [ra4.length]; exact hlen, hlt, rfl, ρ4, h4, acc ++ [y], accv ++ [yv], th4.put, L2.upd_same, RH.rehide (B := bW X T hd) r4 hD4 noTab_lst noTab_lst, ?_, RS.rehide (B := bW X T hd) (rsw.step (s2.trans (s3.trans s4))), ?_, p5⟩
          · exact RVs.rehide (B := bW X T hd) (ra4.append (.cons ry .nil))
          · exact WF.move (B := bW X T (D :: hd)) (B' := bW X T (D :: hd)) (alike_re (B := bW X T hd)) (rehide_at (B := bW X T hd)) (wf.step (s2.trans (s3.trans s4)))
    · rw [bnd_stk (compL_no ok)] at p
      exact p.elim
  · have en : n = xs.length := by omega
    subst en
    rw [List.drop_length] at p
    by_cases ok : srcOk h src
    · refine .inl ⟨(wf.use rh ok).2, ?_⟩
      rw [bnd_ok (compL_nil ok), List.append_nil] at p
      have p2 := p
      have p3 := PostR.step p2 th.st
      have ee : H = L2.upd (rm H D) D (.lst acc) := by
        rw [upd_rm]
        funext b
        unfold L2.upd
        split
        · rename_i e
          rw [e, hDl]
        · rfl
      rw [ee]
      exact finL p3 (RH.drop (B := bW X T hd) rh ((r1.fresh hD).2) hDl noTab_lst) (RVs.dropH (B := bW X T hd) ra) rm_same
    · rw [bnd_stk (compL_no ok)] at p
      exact p.elim
end
end HS
end
-- text EvPar
section
set_option Elab.async false
set_option linter.all false
set_option maxRecDepth 100000

/-! a, b = x, y. -/
namespace HS
open PySem PySem.Spec PyProof.Rows
section
variable {X : L2.Cx} {T : Tx} {E : XK} {pos : Pos}
theorem eAll_len : ∀ {fs : List ES} {sg : Sg} {h h' : Hv} {vs : List PV}, eAll fs sg h = .ok vs h' → vs.length = fs.length
  | [], _, _, _, _, e => by cases e; rfl
  | f :: fs, sg, h, h', vs, e => by
    have e : ((f sg).bnd fun x => (eAll fs sg).bnd fun xs => M.ret (x :: xs)) h = .ok vs h' := e
    cases q : f sg h with
    | ok v h1 =>
      rw [bnd_ok q] at e
      cases q2 : eAll fs sg h1 with
      | ok ws h2 =>
        rw [bnd_ok q2] at e
        cases e
        exact congrArg (· + 1) (eAll_len q2)
      | exc e2 h2 => rw [bnd_exc q2] at e; cases e
      | stuck => rw [bnd_stk q2] at e; cases e
    | exc e2 h2 => rw [bnd_exc q] at e; cases e
    | stuck => rw [bnd_stk q] at e; cases e
/-- without an exchange -/
theorem par_in {es : List ES} {gs : List TGt} {S : List Nat} {D : L2.Ends} {σ : L2.St} {H : Hp} (hl : gs.length = es.length) (hz : gs.length ≤ 1000) (q : tS X T E (sPar (gAll gs) es) D σ H) : tEX X T E (eTup es) σ H fun x H1 => tG X T (gTp gs) S x σ H1 D.nx := by
  refine asg_in ?_
  obtain ⟨hd, ρ, sg, h, rs, rh, p⟩ := q
  refine ⟨hd, ρ, sg, h, rs, rh, ?_⟩
  have p : PostS (bW X T hd) E D ρ H (((eAll es sg).thn fun vs h => match gAll gs vs sg with
    | some σ' => .nx σ' h
    | none => .stuck) h) := p
  have e1 : sAsg (gTp gs) (eTup es) sg h = ((eAll es sg).thn fun vs h => match gAll gs vs sg with
    | some σ' => .nx σ' h
    | none => .stuck) h := by
    show (((eAll es sg).bnd mkT).thn fun v h => match gTp gs v sg with
      | some σ' => .nx σ' h
      | none => .stuck) h = _
    unfold M.thn
    cases q : eAll es sg h with
    | ok vs h1 =>
      have hz2 : vs.length ≤ sizeLine := by
        rw [eAll_len q, ← hl]
        exact Nat.le_trans hz (by rw [sizeLine_eq]; decide)
      have e2 : ((eAll es sg).bnd mkT) h = .ok (.tup vs) h1 := by
        rw [bnd_ok q]
        unfold mkT
        rw [if_pos hz2]
      rw [e2]
      rfl
    | exc e h1 => rw [bnd_exc q]
    | stuck => rw [bnd_stk q]
  rw [e1]
  exact p
/-- with an exchange: two or three plain names -/
theorem two_names {f : Expr → Option Str} {a b : Expr} (h : ([a, b].filterMap f).length = 2) : ∃ x y, f a = some x ∧ f b = some y ∧ [a, b].filterMap f = [x, y] := by
  cases e1 : f a with
  | none =>
    rw [List.filterMap_cons_none e1] at h
    cases e2 : f b with
    | none => rw [List.filterMap_cons_none e2] at h; cases h
    | some y => rw [List.filterMap_cons_some e2] at h; cases h
  | some x =>
    cases e2 : f b with
    | none => rw [List.filterMap_cons_some e1, List.filterMap_cons_none e2] at h; cases h
    | some y => exact ⟨x, y, rfl, rfl, by rw [List.filterMap_cons_some e1, List.filterMap_cons_some e2]; rfl⟩
theorem three_names {f : Expr → Option Str} {a b c : Expr} (h : ([a, b, c].filterMap f).length = 3) : ∃ x y z, f a = some x ∧ f b = some y ∧ f c = some z ∧ [a, b, c].filterMap f = [x, y, z] := by
  cases e1 : f a with
  | none =>
    have q := List.length_filterMap_le f [b, c]
    rw [List.filterMap_cons_none e1] at h
    rw [h] at q
    simp at q
  | some x =>
    rw [List.filterMap_cons_some e1] at h
    obtain ⟨y, z, e2, e3, e4⟩ := two_names (f := f) (a := b) (b := c) (by simpa using h)
    exact ⟨x, y, z, rfl, e2, e3, by rw [List.filterMap_cons_some e1, e4]⟩
theorem lineName_some {sc : Scope} {line : Nat} {e : Expr} {x : Str} (h : lineName sc line e = some x) : ∃ p, e = .Name x p ∧ sc.names.lookup x = some .local := by
  unfold lineName at h
  split at h
  · split at h
    · rename_i q
      cases h
      rw [Bool.and_eq_true] at q
      exact ⟨_, rfl, by simpa using q.1⟩
    · cases h
  · cases h
theorem star_any_eq (vs : List Expr) : (vs.any fun | .Starred .. => true | _ => false) = vs.any isStar := by
  congr 1
theorem names_eq {env : Env} {ts : List Expr} : (ts.filterMap fun
    | .Name id pos => if env.kindOf id == some .local && pos.line == line0 ts then some id else none
    | _ => none) = swapNames env.scope ts := by
  unfold swapNames
  congr 1
theorem swap_eq {env : Env} {ts vs : List Expr} {k k2 : Nat} {p p2 : Pos} {r : Option (List Str)} (hk : env.blockKind = .function) (h : swapK env.scope ts vs = some r) : swappedStores [.Tuple ts k p] (.Tuple vs k2 p2) env = pure r := by
  unfold swapK at h
  have hk2 : (env.blockKind != .function) = false := by rw [hk]; rfl
  unfold swappedStores
  dsimp only
  rw [hk2, Bool.or_false]
  split at h
  · rename_i c
    rw [if_pos c]
    cases h
    rfl
  · rename_i c
    rw [if_neg c]
    show (if (vs.any fun | .Starred .. => true | _ => false) = true then (pure none : Sem (Option (List Str))) else (if ((ts.filterMap fun
      | .Name id pos => if env.kindOf id == some .local && pos.line == line0 ts then some id else none
      | _ => none).length != ts.length || (ts.filterMap fun
      | .Name id pos => if env.kindOf id == some .local && pos.line == line0 ts then some id else none
      | _ => none).eraseDups.length != (ts.filterMap fun
      | .Name id pos => if env.kindOf id == some .local && pos.line == line0 ts then some id else none
      | _ => none).length) = true then pure none else (if vs.all (foldedForSure 8) = true then pure none else (if vs.all (constantsAlone 8) = true then unsupported "assign.tuple-of-constant-expressions:order-of-the-stores" else pure (some (ts.filterMap fun
      | .Name id pos => if env.kindOf id == some .local && pos.line == line0 ts then some id else none
      | _ => none)))))) = pure r
    rw [star_any_eq, names_eq]
    split at h
    · rename_i c
      rw [if_pos c]
      cases h
      rfl
    · rename_i c
      rw [if_neg c]
      split at h
      · rename_i c
        rw [if_pos c]
        cases h
        rfl
      · rename_i c
        rw [if_neg c]
        split at h
        · rename_i c
          rw [if_pos c]
          cases h
          rfl
        · rename_i c
          rw [if_neg c]
          split at h
          · cases h
          · rename_i c
            rw [if_neg c]
            cases h
            rfl
end
end HS
end
-- text EvFit
section
set_option Elab.async false
set_option linter.all false
set_option maxRecDepth 100000

/-! When a reading fits a context; calls of the text's own defs. -/
namespace HS
open PySem PySem.Spec PyProof.Rows
/-- a def by its promise; b: it asks what is shown around it -/
structure FnG (b : Bool) (P : Program) (w : World) (K : PySem.W.Frag) (mg : Str → Option Value) (base : Heap) (k : Nat) (f : Addr) (fd : FuncData) (ps : List Str) (sp : L2.Sp) : Prop where
  len : ∀ vs H Q E, sp vs H Q E → vs.length = ps.length
  run : ∀ (A : Around) (outer : List Env) (s : Shared) (H : Hp) (args : Args) (us : List Value) (vs : List V) (Q : L2.VK) (E : XK), L2.Room k A → (b = true → A.guards = some []) → L2.Env0 P w K mg base A outer s H → BindsTo s fd args (ps.zip us) → L2.Vals vs us → sp vs H Q E →
    codeAny (model P w) A (.call (.ref f) args) (L2.CR (L2.CX P w) outer P w H s Q E) s
/-- the promise that a meaning makes -/
def spOf (B : Bs) (n : Nat) (c : List PV → M PV) : L2.Sp := fun xs H Q E => ∃ hd ρ h vs, vs.length = n ∧ RH (B.wh hd) ρ h H ∧ RVs (B.wh hd) ρ H xs vs ∧ PostV (B.wh hd) E ρ H (c vs h) Q
/-- the places that are picked -/
def pick {α : Type} (ix : List Nat) (ws : List α) : List α := ix.filterMap fun i => ws[i]?
def KwB (K : PySem.W.Frag) (fd : FuncData) (ps ks : List Str) (ix : List Nat) : Prop := ∀ (s : Shared) (ws : List Value), K.In s.heap → ws.length = ks.length → BindsTo s fd ⟨[], ks.zip ws⟩ (ps.zip (pick ix ws))
theorem pick_rv {B : Bs} {ρ : List Addr} {H : Hp} {xs : List V} {vs : List PV} (r : RVs B ρ H xs vs) : ∀ {ix : List Nat} {us : List PV}, reorder ix vs = some us → RVs B ρ H (pick ix xs) us
  | [], us, e => by cases e; exact .nil
  | i :: ix, us, e => by
    unfold reorder mapO at e
    cases e1 : vs[i]? with
    | none => rw [e1] at e; cases e
    | some v =>
      cases e2 : mapO (fun i => vs[i]?) ix with
      | none => rw [e1, e2] at e; cases e
      | some ws =>
        rw [e1, e2] at e
        cases e
        obtain ⟨x, h1, h2⟩ := r.get e1
        have z : pick (i :: ix) xs = x :: pick ix xs := by
          unfold pick
          rw [List.filterMap_cons_some h1]
        rw [z]
        exact .cons h2 (pick_rv r e2)
theorem pick_vals {xs : List V} {us : List Value} (r : L2.Vals xs us) : ∀ ix : List Nat, L2.Vals (pick ix xs) (pick ix us)
  | [] => .nil
  | i :: ix => by
    unfold pick
    cases e : xs[i]? with
    | none =>
      rw [List.filterMap_cons_none e, List.filterMap_cons_none (r.none_of e)]
      exact pick_vals r ix
    | some x =>
      obtain ⟨u, h1, h2⟩ := r.get e
      rw [List.filterMap_cons_some e, List.filterMap_cons_some h1]
      exact .cons h2 (pick_vals r ix)
/-- a raise of an own class, from its arguments -/
def tMk (X : L2.Cx) (T : Tx) (E : XK) (c : Str) (ps : List Str) (f : Sg → M (List PV)) : L2.St → Hp → XK → Prop := fun σ H Q => ∃ hd ρ sg h, RS (bW X T hd) ρ H sg σ ∧ RH (bW X T hd) ρ h H ∧
  PostVs (bW X T hd) E ρ H (f sg h) fun xs H1 => ∃ ρ1 h1 vs, Step (bW X T hd) ρ H ρ1 H1 ∧ RH (bW X T hd) ρ1 h1 H1 ∧ RVs (bW X T hd) ρ1 H1 xs vs ∧ vs.length = ps.length ∧
    ∀ cls d H2, (∃ ρ2, Step (bW X T hd) ρ1 H1 ρ2 H2 ∧ RH (bW X T hd) ρ2 h1 H2 ∧ RX (bW X T hd) ρ2 H2 cls d (.exc c (ps.zip vs))) → Q cls d H2
/-- what the written part says of a class that may be caught -/
structure ClsOk (K : PySem.W.Frag) (C : Addr) : Prop where
  ga : PySem.W.findIn K (.ref C) "__getattribute__" = some (some (.builtin "BaseException.__getattribute__"))
  gg : PySem.W.findIn K (.ref C) "__getattr__" = some none
  ex : PySem.W.subIn K (.ref C) (.type "BaseException") = some true
  hd : PySem.W.hasDictIn K C = true
  cl : PySem.W.findIn K (.ref C) "__class__" = some (some (.builtin "object.__class__"))
  sp : PySem.W.specialIn K (.builtin "object.__class__") "__get__" = some (some (.builtin "getset_descriptor.__get__"))
  tk : PySem.W.takesIn K (.builtin "object.__class__") = some true
  ob : PySem.W.mroIn K C (.type "object") = some true
/-- what the table of the top's names says -/
structure TabOk (P : Program) (w : World) (K : PySem.W.Frag) (mg : Str → Option Value) (base : Heap) (T : Tx) (D : DC) : Prop where
  kls : ∀ c, D.kl c = true → ∃ C, mg c = some (.ref C) ∧ ClsOk K C ∧ ∀ f, D.fl f = true → PySem.W.findIn K (.ref C) f = some none
  sub : ∀ c c2 b, D.kl c = true → D.sub c c2 = some b → (c2 == ("__debug__" : Str)) = false ∧ ∃ C C2, mg c = some (.ref C) ∧ mg c2 = some (.ref C2) ∧ PySem.W.kitOne K (.ref C) (.ref C2) = some b ∧ PySem.W.exmOne K (.ref C) (.ref C2) = some b
  cat : ∀ c, D.ct c = true → (c == ("__debug__" : Str)) = false ∧ ∃ C, mg c = some (.ref C)
  blt : ∀ x, x ∈ blts → D.G x = none → mg x = none
  cst : ∀ x v, D.G x = some (.cst v) → (x == ("__debug__" : Str)) = false ∧ ∃ u y, mg x = some u ∧ L2.RelV y u ∧ ∀ T hd ρ H, RV ⟨K, mg, T, w, hd⟩ ρ H y v
  fns : ∀ x ps, D.G x = some (.fn ps) → D.lv x < D.k → ∃ f fd, mg x = some (.ref f) ∧ PySem.W.keepIn K (.ref f) = true ∧ (x == ("__debug__" : Str)) = false ∧ L2.Binds K fd ps [] ∧ (∀ ks ix, D.kws x ks = true → kwOrder ps ks = some ix → KwB K fd ps ks ix) ∧
    FnG (D.gn x) P w K mg base (D.lv x + 1) f fd ps (spOf ⟨K, mg, T, w, []⟩ ps.length (D.call x))
  excs : ∀ c ps, D.G c = some (.exc ps) → ∀ (X : L2.Cx) (E : XK), X.prog = P → X.w = w → X.K = K → X.mg = mg → X.base = base → X.calm = true → L2.Room 2 X.A → L2.Gl X c → L2.Takes X (fun cls d _ H => E cls d H) →
    ∀ (es : List Expr) (f : Sg → M (List PV)) (p pos : Pos), es ≠ [] → es.any isStar = false → L2.PA X es (tAX X T E f) → L2.PMk X (.Call (.Name c p) es [] pos) (tMk X T E c ps f)
/-- a def of the top that is handed a lambda -/
def HofAt (D : DC) (X : L2.Cx) (T : Tx) (E : XK) (x : Str) : Prop := ∀ (scope : Scope) (body : Expr) (b : ES) (p lp pos : Pos), LamX.LamS X.env.scope scope → D.lv x < D.k → L2.Gl X x →
  (∀ (A : Around) (outer : List Env) (s : Shared) (H : Hp) (E2 : XK) (f c : Addr), L2.Room (D.k - 2) (A.deeper (LamX.lamEnv X scope s.heap.objs.size f c)) → L2.PE (LamX.lamCx X A outer s H E2 scope f c) body (tEX X T E2 b)) →
  L2.PE X (.Call (.Name x p) [.Lambda ⟨[], [], none, [], [], none, []⟩ body scope lp] [] pos) (tEX X T E fun σ => D.callT x (b σ))
/-- the callback, called in a context and within a try there -/
def CbAt (X : L2.Cx) (T : Tx) (x : Str) (m : M PV) : Prop := ∀ (pn : List (Addr × Obj)) (xe : Value → Shared → Prop) (E2 : XK), L2.Takes (X.tr pn xe) (fun cls d _ H => E2 cls d H) → ∀ p1 p2 : Pos, ∀ i : Nat, X.N[i]? = some x → L2.PE (X.tr pn xe) (.Call (.Name x p1) [] [] p2) (tEX X T E2 (eCb i m))
structure Fits (D : DC) (X : L2.Cx) (T : Tx) (E : XK) : Prop where
  N : X.N = D.N
  nd : D.N.Nodup
  sc : X.env.scope = D.sc
  kind : D.sc.kind = .function
  calm : D.calm = true → X.calm = true ∧ L2.Room D.k X.A
  un : X.A.units + 200 < cLine
  gd : D.gd = true → X.A.guards = some []
  own : ∀ x, D.own x = true → X.fn x = true
  takes : L2.Takes X (fun cls d _ H => E cls d H)
  tab : TabOk X.prog X.w X.K X.mg X.base T D
  hof : ∀ x, D.G x = some .hof → HofAt D X T E x
  stk : D.tr = true → X.stack = X.env :: X.outer ∧ X.env.frame = some X.env.locals ∧ ∀ x, D.G x ≠ some .hof
  xno : D.calm = true → T.ex = none
  cb : ∀ x m, D.cb = some (x, m) → CbAt X T x m
  sui : D.ex ≠ none → ∃ (X0 : L2.Cx) (a : Addr) (oe : Obj) (pn : List (Addr × Obj)) (C dd : Addr) (c : Str) (fs : List (Str × PV)), X = X0.suite a ((a, oe) :: pn) ∧ L2.Zc (.ref C) (some dd) oe ∧ (∃ vs, oe.data = .fields vs) ∧ T.ex = some (a, dd, c, fs) ∧ D.kl c = true ∧ X.mg c = some (.ref C)
section
variable {X : L2.Cx} {T : Tx} {E : XK} {pos : Pos} {D : DC}
theorem Fits.glob (F : Fits D X T E) {x : Str} (h : globB D.sc x = true) : L2.Gl X x := by
  unfold globB at h
  show X.env.scope.names.lookup x = some .globalImplicit
  rw [F.sc]
  split at h
  · assumption
  · cases h
theorem Fits.blt (F : Fits D X T E) {x : Str} (h : bltB D x = true) (hx : x ∈ blts) : L2.Gl X x ∧ X.mg x = none := by
  unfold bltB at h
  rw [Bool.and_eq_true, Option.isNone_iff_eq_none] at h
  exact ⟨F.glob h.1, F.tab.blt x hx h.2⟩
theorem Fits.slot (F : Fits D X T E) {x : Str} {i : Nat} (h : slotOf D.N x = some i) : X.N[i]? = some x := by
  rw [F.N]
  unfold slotOf at h
  have q := List.of_findIdx?_eq_some h
  cases e : D.N[i]? with
  | none => rw [e] at q; cases q
  | some y =>
    rw [e] at q
    have q : (y == x) = true := q
    rw [eq_of_beq q]
/-- the callee runs -/
theorem run_g {b : Bool} {f : Addr} {fd : FuncData} {ps : List Str} {sp : L2.Sp} {pins : List (Addr × Obj)} {σ : L2.St} {H : Hp} {s : Shared} {Q : L2.VK} {args : Args} {us : List Value} {vs : List V} {k : Nat} (F : FnG b X.prog X.w X.K X.mg X.base k f fd ps sp) (hr : L2.Room k X.A) (hg : b = true → X.A.guards = some [])
    (tk : L2.Takes X (fun cls d _ H => E cls d H)) (I : L2.Inv X pins σ H s) (hb : BindsTo s fd args (ps.zip us)) (r : L2.Vals vs us) (h : sp vs H Q E) : wpAny (model X.prog X.w) X.A (call (.ref f) args.pos args.kw) (L2.EP X pins σ Q) X.xe s := by
  refine wpAny_call (codeAny_mono (F.run X.A X.stack s H args us vs Q E hr hg I.env0 hb r h) fun rs s' q => ?_)
  cases rs with
  | error e => exact L2.passes_call tk (fun _ _ _ _ z => z) pins σ H s e s' I q
  | ok fl =>
    cases fl with
    | ret u => exact I.after q
    | _ => exact (show False from q).elim
theorem call_in {as : List ES} {c : List PV → M PV} {n : Nat} {σ : L2.St} {H : Hp} {Q : L2.VK} (hn : as.length = n) (q : tEX X T E (eCall c as) σ H Q) : tAX X T E (eAll as) σ H fun xs H1 => spOf (bsOf X T) n c xs H1 Q E := by
  obtain ⟨hd, ρ, sg, h, rs, rh, p⟩ := q
  refine ⟨hd, ρ, sg, h, rs, rh, ?_⟩
  have p : PostV (bW X T hd) E ρ H (((eAll as sg).bnd c) h) Q := p
  cases q : eAll as sg h with
  | ok vs h1 =>
    rw [bnd_ok q] at p
    exact fun ρ1 H1 xs s1 r1 rv => ⟨hd, ρ1, h1, vs, by rw [eAll_len q, hn], r1, rv, p.step s1⟩
  | exc e h1 =>
    rw [bnd_exc q] at p
    exact p
  | stuck =>
    rw [bnd_stk q] at p
    exact p.elim
theorem EachE.length : ∀ {es : List Expr} {fs : List ES}, EachE X T E es fs → es.length = fs.length
  | _, _, .nil => rfl
  | _, _, .cons _ t => congrArg (· + 1) (EachE.length t)
/-- f(e, ..) -/
theorem e_call (F : Fits D X T E) {x : Str} {ps : List Str} {p : Pos} {e : Expr} {es : List Expr} {fs : List ES} (hx : globB D.sc x = true) (hG : D.G x = some (.fn ps)) (hc : D.calm = true) (hg : (D.gd || !D.gn x) = true) (hv : D.lv x < D.k) (h : EachE X T E (e :: es) fs) (hs : (e :: es).any isStar = false) (hn : (e :: es).length = ps.length) :
    L2.PE X (.Call (.Name x p) (e :: es) [] pos) (tEX X T E (eCall (D.call x) fs)) := by
  obtain ⟨f, fd, hm, hk, hdb, hb, _, FG⟩ := F.tab.fns x ps hG hv
  have hs' := hs
  rw [List.any_cons, Bool.or_eq_false_iff] at hs'
  refine ⟨fun pins s σ H Q I q => wpAny_Call_Name_kw (L2.ld_glob I (F.glob hx) hm ?_ hdb)⟩
  refine PySem.W.callWith_K (h₀ := X.base) I.ok.mod.kin hk (L2.thn ((a_all h hs).run pos pins s σ H _ I (call_in (n := ps.length) (h.length.symm.trans hn) q)) fun us s1 ⟨vs, H1, I1, r, q1⟩ => ⟨I1.kIn, ?_⟩) (star_cons hs'.1) (star_any hs'.2)
  have hl := FG.len _ _ _ _ q1
  have hu := r.length
  have b := hb s1 us I1.kIn (by rw [List.append_nil]; omega)
  rw [List.append_nil] at b
  exact run_g (args := ⟨us, []⟩) FG ((F.calm hc).2.mono hv) (fun z => F.gd (by rw [z] at hg; simpa using hg)) F.takes I1 b r q1
/-- keywords, each told -/
inductive EachK (X : L2.Cx) (T : Tx) (E : XK) : List Keyword → List ES → Prop
  | nil : EachK X T E [] []
  | cons {nm : Option Str} {e : Expr} {p : Pos} {f : ES} {ks : List Keyword} {fs : List ES} : L2.PE X e (tEX X T E f) → EachK X T E ks fs → EachK X T E (⟨nm, e, p⟩ :: ks) (f :: fs)
theorem pk_all : ∀ {ks : List Keyword} {fs : List ES}, EachK X T E ks fs → L2.PK X ks (tAX X T E (eAll fs))
  | _, _, .nil => ⟨fun pos pins s σ H Q I ⟨hd, ρ, sg, h, rs, rh, p⟩ => L2.pk_nil.run pos pins s σ H Q I (p.ret rh .nil)⟩
  | _, _, .cons h t => by
    refine ⟨fun pos pins s σ H Q I ⟨hd, ρ, sg, h', rs, rh, p⟩ => (L2.pk_cons h (pk_all t)).run pos pins s σ H Q I ⟨hd, ρ, sg, h', rs, rh, p.bnd.mono fun x H1 ⟨ρ1, h1, v, s1, r1, rv, p1⟩ => ?_⟩⟩
    refine ⟨hd, ρ1, sg, h1, rs.step s1, r1, p1.bnd.mono fun xs H2 ⟨ρ2, h2, vs, s2, r2, rvs, p2⟩ => ?_⟩
    exact p2.ret r2 (.cons (rv.step s2) rvs)
theorem EachK.length : ∀ {ks : List Keyword} {fs : List ES}, EachK X T E ks fs → ks.length = fs.length
  | _, _, .nil => rfl
  | _, _, .cons _ t => congrArg (· + 1) (EachK.length t)
theorem kw_names {env : Env} {pos : Pos} : ∀ {ks : List Keyword} {names : List Str}, kwNames ks = some names →
    (backToKw pos (keywordEach ks env)).all (·.1.isSome) = true ∧ (backToKw pos (keywordEach ks env)).filterMap (·.1) = names ∧ (backToKw pos (keywordEach ks env)).any (·.1.isNone) = false ∧ names.length = ks.length
  | [], names, e => by cases e; exact ⟨rfl, rfl, rfl, rfl⟩
  | ⟨nm, e, p⟩ :: ks, names, h => by
    unfold kwNames mapO at h
    cases nm with
    | none => cases h
    | some x =>
      cases q : mapO (fun (k : Keyword) => k.arg) ks with
      | none => rw [q] at h; cases h
      | some ns =>
        rw [q] at h
        cases h
        obtain ⟨h1, h2, h3, h4⟩ := kw_names (env := env) (pos := pos) (ks := ks) (names := ns) q
        refine ⟨?_, ?_, ?_, congrArg (· + 1) h4⟩
        · show (true && (backToKw pos (keywordEach ks env)).all (·.1.isSome)) = true
          rw [h1]; rfl
        · show (x :: (backToKw pos (keywordEach ks env)).filterMap (·.1)) = x :: ns
          rw [h2]
        · show (false || (backToKw pos (keywordEach ks env)).any (·.1.isNone)) = false
          rw [h3]; rfl
theorem reorder_len : ∀ {ix : List Nat} {vs us : List PV}, reorder ix vs = some us → us.length = ix.length
  | [], vs, us, e => by cases e; rfl
  | i :: ix, vs, us, e => by
    unfold reorder mapO at e
    cases e1 : vs[i]? with
    | none => rw [e1] at e; cases e
    | some v =>
      cases e2 : mapO (fun i => vs[i]?) ix with
      | none => rw [e1, e2] at e; cases e
      | some ws =>
        rw [e1, e2] at e
        cases e
        exact congrArg (· + 1) (reorder_len (ix := ix) e2)
theorem mapO_len {α β : Type} {f : α → Option β} : ∀ {as : List α} {bs : List β}, mapO f as = some bs → bs.length = as.length
  | [], bs, e => by cases e; rfl
  | a :: as, bs, e => by
    unfold mapO at e
    cases e1 : f a with
    | none => rw [e1] at e; cases e
    | some b =>
      cases e2 : mapO f as with
      | none => rw [e1, e2] at e; cases e
      | some ws =>
        rw [e1, e2] at e
        cases e
        exact congrArg (· + 1) (mapO_len e2)
/-- f(k = v, ..) -/
theorem e_callK (F : Fits D X T E) {x : Str} {ps names : List Str} {p : Pos} {ks : List Keyword} {fs : List ES} {ix : List Nat} (hx : globB D.sc x = true) (hG : D.G x = some (.fn ps)) (hc : D.calm = true) (hg : (D.gd || !D.gn x) = true) (hv : D.lv x < D.k) (h : EachK X T E ks fs) (hn : kwNames ks = some names)
    (hi : kwOrder ps names = some ix) (hw : D.kws x names = true) : L2.PE X (.Call (.Name x p) [] ks pos) (tEX X T E (eCall (fun vs => (M.ofO (reorder ix vs)).bnd (D.call x)) fs)) := by
  obtain ⟨f, fd, hm, hk, hdb, _, hb, FG⟩ := F.tab.fns x ps hG hv
  obtain ⟨k1, k2, k3, k4⟩ := kw_names (env := X.env) (pos := pos) hn
  refine ⟨fun pins s σ H Q I q => wpAny_Call_Name_kw (L2.ld_glob I (F.glob hx) hm ?_ hdb)⟩
  refine PySem.W.callWith_KW0 (h₀ := X.base) I.ok.mod.kin hk k1 (L2.thn ((pk_all h).run pos pins s σ H _ I (call_in (n := ks.length) h.length.symm q)) fun ws s1 ⟨zs, H1, I1, r, q1⟩ => ⟨I1.kIn, ?_⟩) (by rw [k3]; rfl)
  rw [k2]
  obtain ⟨hd, ρ, h', vs, h1, h2, h3, h4⟩ := q1
  have h4 : PostV (bW X T hd) E ρ H1 (((M.ofO (reorder ix vs)).bnd (D.call x)) h') Q := h4
  cases er : reorder ix vs with
  | none =>
    have z : ((M.ofO (reorder ix vs)).bnd (D.call x)) h' = .stuck := by rw [er]; rfl
    rw [z] at h4
    exact h4.elim
  | some us =>
    have z : ((M.ofO (reorder ix vs)).bnd (D.call x)) h' = D.call x us h' := by rw [er]; rfl
    rw [z] at h4
    have hl : ix.length = ps.length := by
      unfold kwOrder at hi
      split at hi
      · exact mapO_len hi
      · cases hi
    have rv := pick_rv h3 er
    have hlen : ws.length = names.length := by
      have e1 := r.length
      have e2 := h3.length
      omega
    refine run_g (args := ⟨[], names.zip ws⟩) (us := pick ix ws) (vs := pick ix zs) FG ((F.calm hc).2.mono hv) (fun z => F.gd (by rw [z] at hg; simpa using hg)) F.takes I1 (hb names ix hw hi s1 ws I1.kIn hlen) (pick_vals r ix) ⟨hd, ρ, h', us, by rw [reorder_len er, hl], h2, rv, h4⟩
end
end HS
end
-- text EvMain
section
set_option Elab.async false
set_option linter.all false
set_option maxRecDepth 100000

/-! The reading keeps what the text does: by the fuel. -/
namespace HS
open PySem PySem.Spec PyProof.Rows
section
variable {X : L2.Cx} {T : Tx} {E : XK} {pos : Pos} {D : DC}
abbrev E0 : XK := fun _ _ _ => False
theorem noHof_ne (o : Option GK) : noHof o ≠ some .hof := by
  cases o with
  | none => exact fun z => nomatch z
  | some g => cases g <;> exact fun z => nomatch z
theorem noHof_none {o : Option GK} (h : noHof o = none) : o = none := by
  cases o with
  | none => rfl
  | some g => cases g <;> cases h
theorem noHof_fn {o : Option GK} {ps : List Str} (h : noHof o = some (.fn ps)) : o = some (.fn ps) := by
  cases o with
  | none => cases h
  | some g => cases g <;> first | exact h | cases h
theorem noHof_exc {o : Option GK} {ps : List Str} (h : noHof o = some (.exc ps)) : o = some (.exc ps) := by
  cases o with
  | none => cases h
  | some g => cases g <;> first | exact h | cases h
theorem noHof_cst {o : Option GK} {v : PV} (h : noHof o = some (.cst v)) : o = some (.cst v) := by
  cases o with
  | none => cases h
  | some g => cases g <;> first | exact h | cases h
/-- the table, where less may be called -/
theorem TabOk.less {P : Program} {w : World} {K : PySem.W.Frag} {mg : Str → Option Value} {base : Heap} {D D2 : DC} (t : TabOk P w K mg base T D) (hG : ∀ x, D2.G x = noHof (D.G x)) (hl : D2.lv = D.lv) (hk : D2.k ≤ D.k) (hc : D2.call = D.call) (hg : D2.gn = D.gn) (hw : D2.kws = D.kws) (hkl : D2.kl = D.kl) (hfl : D2.fl = D.fl) (hsb : D2.sub = D.sub) (hct : D2.ct = D.ct) : TabOk P w K mg base T D2 where
  kls := by
    rw [hkl, hfl]
    exact t.kls
  sub := by
    rw [hkl, hsb]
    exact t.sub
  cat := by
    rw [hct]
    exact t.cat
  blt := fun x hx h => t.blt x hx (noHof_none (by rw [← hG]; exact h))
  cst := fun x v h => t.cst x v (noHof_cst (by rw [← hG]; exact h))
  fns := fun x ps h hv => by
    rw [hl, hc, hg, hw]
    rw [hl] at hv
    exact t.fns x ps (noHof_fn (by rw [← hG]; exact h)) (Nat.lt_of_lt_of_le hv hk)
  excs := fun x ps h => t.excs x ps (noHof_exc (by rw [← hG]; exact h))
theorem Fits.blk (F : Fits D X T E) {scope : Scope} {own : List (Str × Nat)} (hb : L2.BlkOk X.N X.env.scope scope own) (s : Shared) (H : Hp) (C : Addr) (cl : List (Str × Addr)) (fp : List Addr) : Fits (D.blk scope) (X.blk s H scope (compEnvC scope cl C X.env) fp) T E0 where
  N := F.N
  nd := F.nd
  sc := by
    show L2.relS scope X.env.scope = L2.relS scope D.sc
    rw [F.sc]
  kind := hb.kind
  calm := F.calm
  un := F.un
  gd := F.gd
  own := fun _ h => h
  takes := LamX.takes0
  tab := F.tab.less (fun _ => rfl) rfl (Nat.le_refl _) rfl rfl rfl rfl rfl rfl rfl
  hof := fun x h => absurd h (noHof_ne _)
  stk := fun h => by cases h
  xno := F.xno
  cb := fun _ _ h => by cases h
  sui := fun h => absurd rfl h
/-- within a lambda -/
theorem Fits.lam (F : Fits D X T E) {scope : Scope} (L : LamX.LamS X.env.scope scope) {A : Around} {outer : List Env} {s : Shared} {H : Hp} {E2 : XK} {f c : Addr} (hr : L2.Room (D.k - 2) (A.deeper (LamX.lamEnv X scope s.heap.objs.size f c))) : Fits (D.lam scope) (LamX.lamCx X A outer s H E2 scope f c) T E2 where
  N := F.N
  nd := F.nd
  sc := rfl
  kind := L.kind
  calm := fun _ => ⟨rfl, hr⟩
  un := by
    have q := hr.un
    show (A.deeper (LamX.lamEnv X scope s.heap.objs.size f c)).units + 200 < cLine
    omega
  gd := fun h => by cases h
  own := fun _ h => by cases h
  takes := L2.takes_of rfl rfl rfl rfl
  tab := F.tab.less (fun _ => rfl) rfl (Nat.sub_le _ _) rfl rfl rfl rfl rfl rfl rfl
  hof := fun x h => absurd h (noHof_ne _)
  stk := fun h => by cases h
  xno := F.xno
  cb := fun _ _ h => by cases h
  sui := fun h => absurd rfl h
theorem nd_slot (F : Fits D X T E) : X.N.Nodup := by rw [F.N]; exact F.nd
theorem mapO_cons {α β : Type} {f : α → Option β} {a : α} {as : List α} {bs : List β} (h : mapO f (a :: as) = some bs) : ∃ b r, f a = some b ∧ mapO f as = some r ∧ bs = b :: r := by
  unfold mapO at h
  cases e1 : f a with
  | none => rw [e1] at h; cases h
  | some b =>
    cases e2 : mapO f as with
    | none => rw [e1, e2] at h; cases h
    | some r =>
      rw [e1, e2] at h
      cases h
      exact ⟨b, r, rfl, rfl, rfl⟩
theorem eachE_of {g : Expr → Option ES} (hg : ∀ e f, g e = some f → L2.PE X e (tEX X T E f)) : ∀ {es : List Expr} {fs : List ES}, mapO g es = some fs → EachE X T E es fs
  | [], fs, h => by cases h; exact .nil
  | e :: es, fs, h => by
    obtain ⟨b, r, h1, h2, rfl⟩ := mapO_cons h
    exact .cons (hg e b h1) (eachE_of hg h2)
theorem eachT_of {g : Expr → Option TSm} (hg : ∀ e f, g e = some f → L2.PT X e (tTX X T E f)) : ∀ {es : List Expr} {fs : List TSm}, mapO g es = some fs → EachT X T E es fs
  | [], fs, h => by cases h; exact .nil
  | e :: es, fs, h => by
    obtain ⟨b, r, h1, h2, rfl⟩ := mapO_cons h
    exact .cons (hg e b h1) (eachT_of hg h2)
theorem eachK_of {g : Keyword → Option ES} (hg : ∀ kw f, g kw = some f → L2.PE X kw.value (tEX X T E f)) : ∀ {es : List Keyword} {fs : List ES}, mapO g es = some fs → EachK X T E es fs
  | [], fs, h => by cases h; exact .nil
  | ⟨nm, e, p⟩ :: es, fs, h => by
    obtain ⟨b, r, h1, h2, rfl⟩ := mapO_cons h
    exact .cons (hg ⟨nm, e, p⟩ b h1) (eachK_of hg h2)
theorem eachP_of {g : Expr → Option ES} (hg : ∀ e f, g e = some f → L2.PE X e (tEX X T E f)) : ∀ {ks : List (Option Expr)} {ks' vs : List Expr} {xs ys : List ES}, mapO id ks = some ks' → mapO g ks' = some xs → mapO g vs = some ys → xs.length = ys.length → EachP X T E ks vs (xs.zip ys)
  | [], ks', vs, xs, ys, h, h1, h2, hl => by
    cases h
    cases h1
    cases vs with
    | nil => cases h2; exact .nil
    | cons v vs =>
      obtain ⟨b, r, _, _, rfl⟩ := mapO_cons h2
      cases hl
  | o :: ks, ks', vs, xs, ys, h, h1, h2, hl => by
    obtain ⟨k1, r1, e1, e2, rfl⟩ := mapO_cons h
    obtain ⟨f, fs, e3, e4, rfl⟩ := mapO_cons h1
    cases vs with
    | nil => cases h2; cases hl
    | cons v vs =>
      obtain ⟨g1, gs, e5, e6, rfl⟩ := mapO_cons h2
      have e1 : o = some k1 := e1
      subst e1
      exact .cons (hg k1 f e3) (hg v g1 e5) (eachP_of hg e2 e4 e6 (by simpa using hl))
/-! ### names, constants, targets -/
theorem constD_ok {c : Const} {kk : Nat} {f : ES} (h : constD c = some f) : L2.PE X (.Constant c kk pos) (tEX X T E f) := by
  cases c <;> first | (cases h; done) | skip
  all_goals first
    | (cases h; exact e_cst L2.pe_non fun _ _ _ => .non)
    | (cases h; exact e_cst L2.pe_bl fun _ _ _ => .bl _)
    | (cases h; exact e_cst L2.pe_int fun _ _ _ => .int _)
    | (cases h; exact e_cst L2.pe_str fun _ _ _ => .str _)
theorem visB_ok {sc : Scope} {x : Str} (h : visB sc x = true) : L2.Vis sc x := by
  unfold visB at h
  split at h
  · exact .inl (by assumption)
  · exact .inr (.inl (by assumption))
  · exact .inr (.inr (by assumption))
  · cases h
/-- the names that the language keeps for itself are no slots -/
def slotsOk (N : List Str) : Prop := ∀ x ∈ N, (x == ("__debug__" : Str)) = false ∧ (x == ("__classdict__" : Str)) = false
theorem nameD_ok (F : Fits D X T E) (hN : slotsOk D.N) {x : Str} {f : ES} (h : nameD D x = some f) : L2.PE X (.Name x pos) (tEX X T E f) := by
  unfold nameD at h
  split at h
  · rename_i hv
    obtain ⟨i, e1, e2⟩ := Option.map_eq_some_iff.mp h
    subst e2
    have hs := F.slot e1
    have hm : x ∈ D.N := by
      rw [F.N] at hs
      exact List.mem_of_getElem? hs
    exact e_var hs (by rw [F.sc]; exact visB_ok hv) (hN x hm).1 (hN x hm).2
  · split at h
    · rename_i hg
      split at h
      · rename_i v e
        cases h
        obtain ⟨h1, u, y, h2, h3, h4⟩ := F.tab.cst x v e
        exact e_cst (L2.pe_glob (F.glob hg) h2 h3 h1) (h4 T)
      · cases h
    · cases h
theorem denG_ok (F : Fits D X T E) : ∀ (n : Nat) (e : Expr) (g : TGt), denG n D e = some g → L2.PG X e (tG X T g (tgSlots n D e)) ∧ isStar e = false
  | 0, _, _, h => by cases h
  | n + 1, e, g, h => by
    unfold denG at h
    split at h
    · rename_i x p
      split at h
      · rename_i hl
        obtain ⟨i, e1, e2⟩ := Option.map_eq_some_iff.mp h
        subst e2
        have z : tgSlots (n + 1) D (.Name x p) = [i] := by
          show (slotOf D.N x).toList = [i]
          rw [e1]
          rfl
        rw [z]
        refine ⟨g_name (nd_slot F) (F.slot e1) ?_ ?_, rfl⟩
        · rw [F.sc]
          rcases hl with hl | hl
          · exact .inl hl
          · exact .inr hl.1
        · rw [F.sc]
          rcases hl with hl | hl
          · exact .inr hl
          · exact .inl (F.own x hl.2)
      · cases h
    · rename_i es kk p
      split at h
      · cases h
      · rename_i hs
        rw [Bool.not_eq_true, Bool.or_eq_false_iff] at hs
        obtain ⟨gs, e1, e2⟩ := Option.map_eq_some_iff.mp h
        subst e2
        have each : ∀ {es : List Expr} {gs : List TGt}, mapO (denG n D) es = some gs → EachG X T es gs (es.flatMap (tgSlots n D)) := by
          intro es
          induction es with
          | nil => intro gs h; cases h; exact .nil
          | cons e es ih =>
            intro gs h
            obtain ⟨b, r, h1, h2, rfl⟩ := mapO_cons h
            rw [List.flatMap_cons]
            exact .cons (denG_ok F n e b h1).1 (ih h2)
        exact ⟨g_tup (F.calm (by simpa using hs.2)).1 (each e1) hs.1, rfl⟩
    · cases h
/-! ### comprehensions -/
/-- a comprehension's parts -/
structure CompOk (X : L2.Cx) (T : Tx) (E : XK) (el tg it : Expr) (ifs : List Expr) (scope : Scope) (own : List (Str × Nat)) (i : IS) (g : TGt) (t : TSm) (x : ES) (S : List Nat) : Prop where
  calm : X.calm = true
  nd : X.N.Nodup
  blk : L2.BlkOk X.N X.env.scope scope own
  itr : L2.PI X tg it (tIX X T E i)
  tgt : ∀ (s : Shared) (H : Hp) (C : Addr) (cl : List (Str × Addr)) (fp : List Addr), L2.PG (X.blk s H scope (compEnvC scope cl C X.env) fp) tg (tG X T g S)
  tst : ∀ (s : Shared) (H : Hp) (C : Addr) (cl : List (Str × Addr)) (fp : List Addr), L2.PTs (X.blk s H scope (compEnvC scope cl C X.env) fp) ifs (tTX X T E0 t)
  elt : ∀ (s : Shared) (H : Hp) (C : Addr) (cl : List (Str × Addr)) (fp : List Addr), L2.PE (X.blk s H scope (compEnvC scope cl C X.env) fp) el (tEX X T E0 x)
  sub : ∀ i ∈ S, i ∈ own.map (·.2)
  fold : isSetD it = false
theorem e_comp {el tg it : Expr} {ifs : List Expr} {scope : Scope} {own : List (Str × Nat)} {i : IS} {g : TGt} {t : TSm} {x : ES} {S : List Nat} {m : Bool} (C : CompOk X T E el tg it ifs scope own i g t x S) : L2.PE X (.ListComp el [⟨tg, it, ifs, 0⟩] scope pos) (tEX X T E (eComp m (own.map (·.2)) i g t x)) :=
  PE.imp (L2.pe_lc C.calm C.nd C.itr C.blk C.tgt C.tst C.elt (no_fold C.fold)) fun σ H Q q => lc_in C.sub q
/-- name = [..] -/
theorem s_comp {el tg it : Expr} {ifs : List Expr} {scope : Scope} {own : List (Str × Nat)} {i : IS} {g : TGt} {t : TSm} {x : ES} {S : List Nat} {m : Bool} {y : Str} {j : Nat} {py cp : Pos} (C : CompOk X T E el tg it ifs scope own i g t x S) (hy : X.N[j]? = some y) (hl : L2.Loc X.env.scope y) (hf : X.fn y = true ∨ X.env.scope.names.lookup y = some .local) :
    L2.PS X (.Assign [.Name y py] (.ListComp el [⟨tg, it, ifs, 0⟩] scope cp) pos) (tS X T E (sAsg (gNm j) (eComp m (own.map (·.2)) i g t x))) := by
  have inner : ∀ {D : L2.Ends} {σ : L2.St} {H : Hp}, tS X T E (sAsg (gNm j) (eComp m (own.map (·.2)) i g t x)) D σ H → tEX X T E (eComp m (own.map (·.2)) i g t x) σ H fun x H1 => L2.gName j x σ H1 D.nx := fun q => tE.mono (asg_in (S := [j]) q) fun x H1 q1 => by
    obtain ⟨hd, ρ, h, v, sg, sg', rh, rv, rs, e, q⟩ := q1
    cases e
    refine q _ (rs.set j rv) (by rw [List.length_set]) fun l hl => ?_
    rw [List.getElem?_set_ne fun z => hl (by rw [z]; exact List.mem_singleton.mpr rfl)]
  have sw : swapsWith (.ListComp el [⟨tg, it, ifs, 0⟩] scope cp) (some (.Name y py)) pos.line X.env = pure (X.env.blockKind == .function && X.env.kindOf y == some .local && py.line == cp.line && !(scope.names.any fun (n, k) => n == y && (k == .local || k == .cell))) := rfl
  cases hb : (X.env.blockKind == .function && X.env.kindOf y == some .local && py.line == cp.line && !(scope.names.any fun (n, k) => n == y && (k == .local || k == .cell))) with
  | false =>
    rw [hb] at sw
    exact PS.imp (L2.ps_set C.nd hy hl (L2.pe_lc C.calm C.nd C.itr C.blk C.tgt C.tst C.elt (no_fold C.fold)) sw hf) fun D σ H q => lc_in C.sub (inner q)
  | true =>
    rw [hb] at sw
    have hloc : X.env.scope.names.lookup y = some .local := by
      simp only [Bool.and_eq_true] at hb
      exact eq_of_beq hb.1.1.2
    exact PS.imp (L2.ps_setLc C.calm C.nd hy hloc sw C.itr C.blk C.tgt C.tst C.elt (no_fold C.fold)) fun D σ H q => lc_in C.sub (inner q)
end
end HS
end
-- text EvCatch
section
set_option Elab.async false
set_option linter.all false
set_option maxRecDepth 100000

/-! Within an except suite: isinstance(e, c), e.f. -/
namespace HS
open PySem PySem.Spec PyProof.Rows
section
variable {X : L2.Cx} {T : Tx} {E : XK} {pos : Pos} {D : DC}
/-- isinstance over an own exception, with its dict or without -/
theorem kit_exc {K : PySem.W.Frag} {x C : Addr} {ox : Obj} {od : Option Obj} (c : ClsOk K C) : PySem.W.KitX K (.ref x) (.ref C) (fun h => PySem.W.InstAt h x ox C od) := by
  obtain ⟨cd, hcd⟩ : ∃ cd, PySem.W.clsIn K C = some cd := by
    obtain ⟨cd, h, _⟩ := PySem.W.any_some c.hd
    exact ⟨cd, h⟩
  have base := PySem.W.handS_kitx_exc (K := K) (x := x) (D := C) (ox := ox) c.ga c.gg c.ex c.hd c.cl c.sp c.tk c.ob
  refine ⟨fun _ _ _ I => I.type, fun M h kx _ => ?_, base.ne, fun kx I q => ?_⟩
  · unfold PySem.W.clsIn at hcd
    split at hcd
    · rename_i ho
      intro A' Q' E' s' k q
      unfold isType loadHead
      exact wpAny_bind (wpAny_loadPart (k _ _ (kx _ _ ho)) (wpAny_pure q))
    · cases hcd
  · exact PySem.W.kx_classE kx I c.ga c.gg c.ex (PySem.W.findObj_dataE (by rw [hcd]; rfl) c.cl c.sp c.tk) c.ob q
theorem eVar_at {i : Nat} {sg : Sg} {h : Hv} {v : PV} (e : sg[i]? = some (some v)) : eVar i sg h = .ok v h := by unfold eVar; rw [e]
theorem eVar_n1 {i : Nat} {sg : Sg} {h : Hv} (e : sg[i]? = none) : eVar i sg h = .stuck := by unfold eVar; rw [e]
theorem eVar_n2 {i : Nat} {sg : Sg} {h : Hv} (e : sg[i]? = some none) : eVar i sg h = .stuck := by unfold eVar; rw [e]
theorem isx_ok {X0 : L2.Cx} {a C dd : Addr} {oe : Obj} {pn : List (Addr × Obj)} {c y c2 : Str} {fs : List (Str × PV)} {i : Nat} {sub : Str → Str → Option Bool} {p1 p2 p3 : Pos} (hz : L2.Zc (.ref C) (some dd) oe) (hf : ∃ vs, oe.data = .fields vs) (ht : T.ex = some (a, dd, c, fs)) (hk : ClsOk X0.K C)
    (hy : X0.N[i]? = some y) (hv : L2.Vis X0.env.scope y) (h1 : (y == ("__debug__" : Str)) = false) (h2 : (y == ("__classdict__" : Str)) = false) (gi : L2.Gl X0 "isinstance") (mi : X0.mg "isinstance" = none) (gc : L2.Gl X0 c2) (hdb : (c2 == ("__debug__" : Str)) = false)
    (hs : ∀ b, sub c c2 = some b → ∃ C2, X0.mg c2 = some (.ref C2) ∧ PySem.W.kitOne X0.K (.ref C) (.ref C2) = some b) {b0 : Bool} (h0 : sub c c2 = some b0) :
    L2.PE (X0.suite a ((a, oe) :: pn)) (.Call (.Name "isinstance" p1) [.Name y p2, .Name c2 p3] [] pos) (tEX (X0.suite a ((a, oe) :: pn)) T E (eIsx sub i c2)) := by
  obtain ⟨C2, mc, hkit⟩ := hs b0 h0
  have hc : L2.CallR (X0.suite a ((a, oe) :: pn)) (.builtin "isinstance") (fun xs H Q => xs = [.ref a, .ref C2] ∧ (∃ xs, H dd = some (.xd xs)) ∧ Q (.bl b0) H) := by
    intro pins s σ H xs us Q I r ⟨ex, ⟨xs2, hd⟩, q⟩
    subst ex
    cases r with
    | cons r1 rr =>
      cases rr with
      | cons r2 rr =>
        cases rr
        cases r1
        cases r2
        obtain ⟨hget, _⟩ := I.pin (a, oe) (List.mem_append.mpr (.inl List.mem_cons_self))
        obtain ⟨vs, hv⟩ := hf
        have hx : L2.ObjOk X0.prog X0.w H s.heap dd (.xd xs2) := I.hok dd _ hd
        obtain ⟨mA, hns, _⟩ := hx
        obtain ⟨od, ho, _⟩ := L2.lookIn_ns hns
        have J : PySem.W.InstAt s.heap a oe C (some od) := ⟨hget, hz.1, by unfold PySem.W.notCls; rw [hv] <;> rfl, by rw [hz.2]; exact ho⟩
        exact PySem.W.kia_one (kit_exc hk) I.kIn J hkit (fun z => nomatch z) fun tk => ⟨.bl b0, H, I.kept (t' := tk) fun _ _ z => z, rfl, q⟩
  refine PE.imp (L2.pe_callB hc gi mi isi_blt (L2.pa_cons (L2.pe_var hy hv h1 h2) (L2.pa_cons (L2.pe_glob (v := .ref C2) gc mc rfl hdb) L2.pa_nil (star_cons rfl)) (star_cons rfl)) (by decide +kernel) (by decide +kernel) (star_cons rfl) rfl) fun σ H Q ⟨hd, ρ, sg, h, rs, rh, p⟩ => ?_
  have p : PostV (bW X0 T hd) E ρ H (((eVar i sg).bnd fun v => match v with
    | .exc b _ => M.ofO ((sub b c2).map .bl)
    | _ => M.stk) h) Q := p
  cases e : sg[i]? with
  | none =>
    rw [bnd_stk (eVar_n1 e)] at p
    exact p.elim
  | some o =>
    cases o with
    | none =>
      rw [bnd_stk (eVar_n2 e)] at p
      exact p.elim
    | some v =>
      rw [bnd_ok (eVar_at e)] at p
      obtain ⟨x, g1, g2⟩ := rs.get i v e
      cases v with
      | exc b fs2 =>
        cases g2 with
        | @exc a2 dd2 c3 fs3 he =>
          have he : T.ex = some (a2, dd2, b, fs2) := he
          rw [ht] at he
          cases he
          have p : PostV (bW X0 T hd) E ρ H (M.ofO ((sub c c2).map .bl) h) Q := p
          rw [h0] at p
          obtain ⟨_, xs, hx, _⟩ := rh.xc.ex a dd c fs ht
          exact ⟨.ref a, g1, rfl, ⟨xs, hx⟩, PostR.ret p rh (.bl b0)⟩
      | _ => exact p.elim
theorem fld_ok {X0 : L2.Cx} {a C dd : Addr} {oe : Obj} {pn : List (Addr × Obj)} {c y f : Str} {fs : List (Str × PV)} {i : Nat} {p1 : Pos} (hz : L2.Zc (.ref C) (some dd) oe) (hf : ∃ vs, oe.data = .fields vs) (ht : T.ex = some (a, dd, c, fs)) (hk : ClsOk X0.K C) (hn : PySem.W.findIn X0.K (.ref C) f = some none)
    (hy : X0.N[i]? = some y) (hv : L2.Vis X0.env.scope y) (h1 : (y == ("__debug__" : Str)) = false) (h2 : (y == ("__classdict__" : Str)) = false) :
    L2.PE (X0.suite a ((a, oe) :: pn)) (.Attribute (.Name y p1) f pos) (tEX (X0.suite a ((a, oe) :: pn)) T E (eFld i f)) := by
  refine PE.imp (L2.pe_xf (C := C) ⟨hk.ga, hk.gg, hk.ex, hk.hd⟩ hn hz hf (L2.pe_var (X := X0.suite a ((a, oe) :: pn)) hy hv h1 h2) rfl) fun σ H Q ⟨hd, ρ, sg, h, rs, rh, p⟩ => ?_
  have p : PostV (bW X0 T hd) E ρ H (((eVar i sg).bnd fun v => match v with
    | .exc _ fs => M.ofO (fs.lookup f)
    | _ => M.stk) h) Q := p
  cases e : sg[i]? with
  | none =>
    rw [bnd_stk (eVar_n1 e)] at p
    exact p.elim
  | some o =>
    cases o with
    | none =>
      rw [bnd_stk (eVar_n2 e)] at p
      exact p.elim
    | some v =>
      rw [bnd_ok (eVar_at e)] at p
      obtain ⟨x, g1, g2⟩ := rs.get i v e
      cases v with
      | exc b fs2 =>
        cases g2 with
        | @exc a2 dd2 c3 fs3 he =>
          have he : T.ex = some (a2, dd2, b, fs2) := he
          rw [ht] at he
          cases he
          have p : PostV (bW X0 T hd) E ρ H (M.ofO (fs.lookup f) h) Q := p
          cases ef : fs.lookup f with
          | none =>
            rw [ef] at p
            exact p.elim
          | some v =>
            rw [ef] at p
            obtain ⟨_, xs, hx, hl⟩ := rh.xc.ex a dd c fs ht
            obtain ⟨z, l1, l2⟩ := hl f v ef
            exact ⟨.ref a, g1, rfl, rfl, dd, xs, z, rfl, hx, l1, PostR.ret p rh l2⟩
      | _ => exact p.elim
theorem isx_no {c c2 : Str} {a dd : Addr} {fs : List (Str × PV)} {i : Nat} {sub : Str → Str → Option Bool} {σ : L2.St} {H : Hp} {Q : L2.VK} (ht : T.ex = some (a, dd, c, fs)) (h0 : sub c c2 = none) (q : tEX X T E (eIsx sub i c2) σ H Q) : False := by
  obtain ⟨hd, ρ, sg, h, rs, rh, p⟩ := q
  have p : PostV (bW X T hd) E ρ H (((eVar i sg).bnd fun v => match v with
    | .exc b _ => M.ofO ((sub b c2).map .bl)
    | _ => M.stk) h) Q := p
  cases e : sg[i]? with
  | none => rw [bnd_stk (eVar_n1 e)] at p; exact p.elim
  | some o =>
    cases o with
    | none => rw [bnd_stk (eVar_n2 e)] at p; exact p.elim
    | some v =>
      rw [bnd_ok (eVar_at e)] at p
      obtain ⟨x, g1, g2⟩ := rs.get i v e
      cases v with
      | exc b fs2 =>
        cases g2 with
        | @exc a2 dd2 c3 fs3 he =>
          have he : T.ex = some (a2, dd2, b, fs2) := he
          rw [ht] at he
          cases he
          have p : PostV (bW X T hd) E ρ H (M.ofO ((sub c c2).map .bl) h) Q := p
          rw [h0] at p
          exact p.elim
      | _ => exact p.elim
theorem isxD_ok (F : Fits D X T E) (hN : slotsOk D.N) {as : List Expr} {p : Pos} {g : ES} (hf : bltB D "isinstance" = true) (h : isxD D as = some g) : L2.PE X (.Call (.Name "isinstance" p) as [] pos) (tEX X T E g) := by
  unfold isxD at h
  split at h
  · rename_i y p2 c2 p3
    split at h
    · rename_i hc
      obtain ⟨h1, h2, h3⟩ := hc
      obtain ⟨i, e1, e2⟩ := Option.map_eq_some_iff.mp h
      subst e2
      have hs := F.slot e1
      have hm : y ∈ D.N := by
        rw [F.N] at hs
        exact List.mem_of_getElem? hs
      obtain ⟨gi, mi⟩ := F.blt hf (by decide +kernel)
      have gc := F.glob h2
      have vis : L2.Vis X.env.scope y := by rw [F.sc]; exact visB_ok h3
      obtain ⟨X0, a, oe, pn, C, dd, c, fs, hX, hz, hfl, ht, hk, hmc⟩ := F.sui (by rw [h1]; exact fun z => nomatch z)
      cases hsub : D.sub c c2 with
      | none => exact ⟨fun pins s σ H Q I q => (isx_no ht hsub q).elim⟩
      | some b0 =>
        obtain ⟨C', m1, ck, _⟩ := F.tab.kls c hk
        obtain ⟨hdb, C1, C2, m2, m3, k1, k2⟩ := F.tab.sub c c2 b0 hk hsub
        rw [hmc] at m1 m2
        cases m1
        cases m2
        subst hX
        exact isx_ok hz hfl ht ck hs vis (hN y hm).1 (hN y hm).2 gi mi gc hdb (fun b hb => by
          rw [hsub] at hb
          cases hb
          exact ⟨C2, m3, k1⟩) hsub
    · cases h
  · cases h
theorem fldD_ok (F : Fits D X T E) (hN : slotsOk D.N) {y f : Str} {p : Pos} {g : ES} (h : fldD D y f = some g) : L2.PE X (.Attribute (.Name y p) f pos) (tEX X T E g) := by
  unfold fldD at h
  split at h
  · rename_i hc
    obtain ⟨h1, h2, h3⟩ := hc
    obtain ⟨i, e1, e2⟩ := Option.map_eq_some_iff.mp h
    subst e2
    have hs := F.slot e1
    have hm : y ∈ D.N := by
      rw [F.N] at hs
      exact List.mem_of_getElem? hs
    have vis : L2.Vis X.env.scope y := by rw [F.sc]; exact visB_ok h3
    obtain ⟨X0, a, oe, pn, C, dd, c, fs, hX, hz, hfl, ht, hk, hmc⟩ := F.sui (by rw [h1]; exact fun z => nomatch z)
    obtain ⟨C', m1, ck, hno⟩ := F.tab.kls c hk
    rw [hmc] at m1
    cases m1
    subst hX
    exact fld_ok hz hfl ht ck (hno f h2) hs vis (hN y hm).1 (hN y hm).2
  · cases h
end
end HS
end
-- text EvAll
section
set_option Elab.async false
set_option linter.all false
set_option maxRecDepth 100000

/-! The reading keeps what the text does: expressions. -/
namespace HS
open PySem PySem.Spec PyProof.Rows
section
variable {X : L2.Cx} {T : Tx} {E : XK} {pos : Pos} {D : DC}
/-- what the induction carries -/
structure Tells (T : Tx) (n : Nat) : Prop where
  e : ∀ (D : DC) (X : L2.Cx) (E : XK), Fits D X T E → slotsOk D.N → ∀ e f, denE n D e = some f → L2.PE X e (tEX X T E f)
  t : ∀ (D : DC) (X : L2.Cx) (E : XK), Fits D X T E → slotsOk D.N → ∀ e f, denT n D e = some f → L2.PT X e (tTX X T E f)
  i : ∀ (D : DC) (X : L2.Cx) (E : XK), Fits D X T E → slotsOk D.N → ∀ tg e f, denI n D tg e = some f → L2.PI X tg e (tIX X T E f)
  c : ∀ (D : DC) (X : L2.Cx) (E : XK), Fits D X T E → slotsOk D.N → ∀ a ops bs p f, denE n D (.Compare a ops bs p) = some f → L2.PT X (.Compare a ops bs p) (tTX X T E (tBl f))
variable {r : RdE} {rT : DC → Expr → Option TSm} {rI : DC → Expr → Expr → Option IS}
theorem map_some {α β : Type} {o : Option α} {g : α → β} {b : β} (h : o.map g = some b) : ∃ a, o = some a ∧ b = g a := by
  obtain ⟨a, h1, h2⟩ := Option.map_eq_some_iff.mp h
  exact ⟨a, h1, h2.symm⟩
abbrev Ok1 (X : L2.Cx) (T : Tx) (E : XK) (g : Expr → Option ES) : Prop := ∀ e f, g e = some f → L2.PE X e (tEX X T E f)
theorem bin_ok {a b : Expr} {op : Operator} {f : ES} (hr : Ok1 X T E (r D)) (h : binE r D a op b pos = some f) : L2.PE X (.BinOp a op b pos) (tEX X T E f) := by
  unfold binE at h
  split at h
  · rename_i g x y e1 e2 e3
    cases h
    exact e_bin e1 (hr _ _ e2) (hr _ _ e3)
  · cases h
theorem ifE_ok {t a b : Expr} {f : ES} (hr : Ok1 X T E (r D)) (hT : ∀ e f, rT D e = some f → L2.PT X e (tTX X T E f)) (h : ifE r rT D t a b = some f) : L2.PE X (.IfExp t a b pos) (tEX X T E f) := by
  unfold ifE at h
  split at h
  · rename_i c x y e1 e2 e3
    cases h
    exact e_if (hT _ _ e1) (hr _ _ e2) (hr _ _ e3)
  · cases h
theorem cmp1_ok {a b : Expr} {op : CmpOp} {f : ES} (hu : X.A.units + 200 < cLine) (hr : Ok1 X T E (r D)) (h : cmp1D r D a op b = some f) : L2.PE X (.Compare a [op] [b] pos) (tEX X T E f) ∧ L2.PT X (.Compare a [op] [b] pos) (tTX X T E (tBl f)) := by
  unfold cmp1D at h
  split at h
  · cases h
  · rename_i hs
    split at h
    · rename_i x y e1 e2
      cases h
      rw [Bool.not_eq_true] at hs
      exact ⟨e_cmp hu (hr _ _ e1) (hr _ _ e2) hs, t_cmp hu (hr _ _ e1) (hr _ _ e2) hs⟩
    · cases h
theorem cmp2_ok {a b c : Expr} {op op' : CmpOp} {f : ES} (hu : X.A.units + 200 < cLine) (hr : Ok1 X T E (r D)) (h : cmp2D r D a op op' b c = some f) : L2.PE X (.Compare a [op, op'] [b, c] pos) (tEX X T E f) ∧ L2.PT X (.Compare a [op, op'] [b, c] pos) (tTX X T E (tBl f)) := by
  unfold cmp2D at h
  split at h
  · cases h
  · rename_i hs
    split at h
    · rename_i x y z e1 e2 e3
      cases h
      rw [Bool.not_eq_true, Bool.or_eq_false_iff] at hs
      exact ⟨e_chain hu (hr _ _ e1) (hr _ _ e2) (hr _ _ e3) hs.2, t_chain hu (hr _ _ e1) (hr _ _ e2) (hr _ _ e3) hs.2⟩
    · cases h
theorem ix_ok {a i : Expr} {f : ES} (hu : X.A.units + 200 < cLine) (hr : Ok1 X T E (r D)) (h : ixE r D a i = some f) : L2.PE X (.Subscript a i pos) (tEX X T E f) := by
  unfold ixE at h
  split at h
  · cases h
  · rename_i hs
    split at h
    · rename_i x y e1 e2
      cases h
      exact e_ix hu (hr _ _ e1) (hr _ _ e2) (by simpa using hs)
    · cases h
theorem part_ok {o : Option Expr} {g : Sg → M (Option Int)} (hr : Ok1 X T E (r D)) (h : partD r D o = some g) : L2.PO X o (tP (bsOf X T) E g) := by
  cases o with
  | none => cases h; exact po_no
  | some e =>
    obtain ⟨x, e1, rfl⟩ := map_some (show (r D e).map ePart = some g from h)
    exact po_part (hr _ _ e1)
theorem isBack_is {s : Expr} (h : isBack (some s) = true) : ∃ k p1 p2, s = .UnaryOp .USub (.Constant (.int 1) k p1) p2 := by
  unfold isBack at h
  split at h
  · rename_i e
    cases e
    exact ⟨_, _, _, rfl⟩
  · cases h
theorem slice_ok {a : Expr} {l u s : Option Expr} {f : ES} {p2 : Pos} (hr : Ok1 X T E (r D)) (h : sliceD r D a l u s pos = some f) : L2.PE X (.Subscript a (.Slice l u s p2) pos) (tEX X T E f) := by
  unfold sliceD at h
  split at h
  · split at h
    · rename_i x i j e1 e2 e3
      cases h
      exact e_slice (hr _ _ e1) (part_ok hr e2) (part_ok hr e3)
    · cases h
  · rename_i st
    split at h
    · rename_i hc
      obtain ⟨h1, h2, h3⟩ := hc
      obtain ⟨kk, p1, p3, rfl⟩ := isBack_is h1
      cases l with
      | some _ => cases h2
      | none =>
        cases u with
        | some _ => cases h3
        | none =>
          obtain ⟨x, e1, rfl⟩ := map_some h
          exact pe_rev (hr _ _ e1)
    · cases h
theorem dict_ok {ks : List (Option Expr)} {vs : List Expr} {f : ES} (hr : Ok1 X T E (r D)) (h : dictD r D ks vs pos = some f) : L2.PE X (.Dict ks vs pos) (tEX X T E f) := by
  unfold dictD at h
  split at h
  · rename_i hk
    split at h
    · rename_i hv
      cases h
      cases ks with
      | cons _ _ => cases hk
      | nil =>
        cases vs with
        | cons _ _ => cases hv
        | nil => exact e_dnew
    · cases h
  · rename_i hk
    split at h
    · cases h
    · rename_i h15
      split at h
      · rename_i ks' e1
        split at h
        · rename_i xs ys e2 e3
          split at h
          · rename_i hl
            cases h
            exact e_disp (eachP_of hr e1 e2 e3 hl) (fun z => hk (by rw [z]; rfl)) (by omega)
          · cases h
        · cases h
      · cases h
theorem meth_ok2 {o : Expr} {m : Str} {apos : Pos} {as : List Expr} {f : ES} (hr : Ok1 X T E (r D)) (h : methD r D o m apos as pos = some f) : L2.PE X (.Call (.Attribute o m apos) as [] pos) (tEX X T E f) := by
  unfold methD at h
  split at h
  · cases h
  · rename_i hc
    rw [Bool.not_eq_true, Bool.or_eq_false_iff, Bool.or_eq_false_iff, Bool.or_eq_false_iff] at hc
    split at h
    · rename_i g x xs e1 e2 e3
      cases h
      refine e_meth e1 (hr _ _ e2) (fun h p q z => ?_) (eachE_of hr e3) hc.1.1.1 (by simpa using hc.1.1.2) (by simpa using hc.1.2)
      subst z
      cases hc.2
    · cases h
theorem comp_ok (F : Fits D X T E) (hN : slotsOk D.N) {n : Nat} (ih : Tells T n) {el tg it : Expr} {ifs : List Expr} {scope : Scope} {f : ES} (h : compD (denE n) (denT n) (denI n) D el tg it ifs scope pos = some f) :
    ∃ (own : List (Str × Nat)) (i : IS) (g : TGt) (t : TSm) (x : ES) (S : List Nat) (m : Bool), f = eComp m (own.map (·.2)) i g t x ∧ CompOk X T E el tg it ifs scope own i g t x S := by
  unfold compD at h
  split at h
  · rename_i hc
    simp only [Bool.and_eq_true, Bool.not_eq_true', List.all_eq_true, decide_eq_true_eq] at hc
    obtain ⟨⟨⟨h1, h2⟩, h3⟩, h4⟩ := hc
    split at h
    · rename_i i g t x e1 e2 e3 e4
      cases h
      have hb : L2.BlkOk X.N X.env.scope scope (ownOf D.N scope) := by
        rw [F.N, F.sc]
        exact L2.blkOk_by h2
      refine ⟨ownOf D.N scope, i, g, t, x, tgSlots 9 (D.blk scope) tg, D.mu pos, rfl, (F.calm h1).1, nd_slot F, hb, ih.i D X E F hN _ _ _ e1, fun s H C cl fp => ?_, fun s H C cl fp => ?_, fun s H C cl fp => ?_, h4, h3⟩
      · exact (denG_ok (F.blk hb s H C cl fp) 9 _ _ e2).1
      · split at e3
        · cases e3
          exact ⟨fun pins s1 σ H1 Q I ⟨hd, ρ, sg, h, rs, rh, p⟩ => L2.pts_nil.run pins s1 σ H1 Q I (p.ret rh rfl)⟩
        · exact L2.pts_one (ih.t _ _ _ (F.blk hb s H C cl fp) hN _ _ e3)
        · cases e3
      · exact ih.e _ _ _ (F.blk hb s H C cl fp) hN _ _ e4
    · cases h
  · cases h
theorem boot_range' : bootBuiltins "range" = some (.type "range") := by decide +kernel
theorem rangeOf_is {a b : Expr} (h : rangeOf D a = some b) : ∃ p q, a = .Call (.Name "range" p) [b] [] q ∧ bltB D "range" = true ∧ isStar b = false := by
  unfold rangeOf at h
  split at h
  · split at h
    · rename_i hc
      cases h
      obtain ⟨rfl, h2, h3⟩ := hc
      exact ⟨_, _, rfl, h2, h3⟩
    · cases h
  · cases h
theorem any_one {a : Expr} (h : [a].any isStar = false) : isStar a = false := by
  rw [List.any_cons, Bool.or_eq_false_iff] at h
  exact h.1
theorem blt_ok (F : Fits D X T E) {f : Str} {as : List Expr} {p : Pos} {g : ES} (hr : Ok1 X T E (r D)) (hf : bltB D f = true) (hs : as.any isStar = false) (h : bltD r D f as pos = some g) : L2.PE X (.Call (.Name f p) as [] pos) (tEX X T E g) := by
  unfold bltD at h
  split at h
  · rename_i a
    split at h
    · rename_i b eb
      obtain ⟨p1, p2, rfl, h1, h2⟩ := rangeOf_is eb
      obtain ⟨gr, mr⟩ := F.blt h1 (by decide +kernel)
      split at h
      · rename_i hc
        split at h
        · rename_i ef
          subst ef
          obtain ⟨x, e1, rfl⟩ := map_some h
          obtain ⟨gt, mt⟩ := F.blt hf (by decide +kernel)
          exact e_tupRg (F.calm hc).1 gt mt gr mr (hr _ _ e1) h2
        · split at h
          · rename_i ef
            subst ef
            obtain ⟨x, e1, rfl⟩ := map_some h
            obtain ⟨gt, mt⟩ := F.blt hf (by decide +kernel)
            exact e_lstRg (F.calm hc).1 gt mt gr mr (hr _ _ e1) h2
          · cases h
      · cases h
    · split at h
      · rename_i g1 x e1 e2
        split at h
        · rename_i hb
          cases h
          unfold b1Ok at hb
          rw [Bool.and_eq_true] at hb
          obtain ⟨v, q1, q2, q3, q4, q5⟩ := b1_ok (X := X) (T := T) (E := E) (by
            cases hc : D.calm with
            | true => exact .inl (F.calm hc).1
            | false =>
              refine .inr ?_
              have z := hb.1
              rw [hc] at z
              exact z) F.un (by
            cases hc : D.gd with
            | true => exact .inl (F.gd hc)
            | false =>
              refine .inr ?_
              have z := hb.2
              rw [hc] at z
              exact z) e1
          obtain ⟨gg, mg⟩ := F.blt hf q4
          exact e_c1 q5 ⟨gg, mg, q1, q2, q3⟩ (hr _ _ e2) (any_one hs)
        · cases h
      · cases h
  · rename_i a b
    split at h
    · rename_i g1 x y e1 e2 e3
      split at h
      · rename_i hc
        cases h
        obtain ⟨v, q1, q2, q3, q4, q5⟩ := b2_ok (X := X) (T := T) (E := E) (F.calm hc).1 e1
        obtain ⟨gg, mg⟩ := F.blt hf q4
        exact e_c2 q5 ⟨gg, mg, q1, q2, q3⟩ (hr _ _ e2) (hr _ _ e3) hs
      · cases h
    · cases h
  · cases h
theorem isi_ok2 (F : Fits D X T E) {as : List Expr} {p : Pos} {g : ES} (hr : Ok1 X T E (r D)) (hf : bltB D "isinstance" = true) (hs : as.any isStar = false) (h : isiE r D as = some g) : L2.PE X (.Call (.Name "isinstance" p) as [] pos) (tEX X T E g) := by
  unfold isiE at h
  split at h
  · rename_i a c p2
    split at h
    · rename_i hc
      split at h
      · rename_i t x e1 e2
        cases h
        obtain ⟨gi, mi⟩ := F.blt hf (by decide +kernel)
        obtain ⟨gc, mc⟩ := F.blt hc (isi_ok e1).2.2.2.2
        rw [List.any_cons, Bool.or_eq_false_iff] at hs
        exact e_isi e1 gi mi gc mc (hr _ _ e2) hs.1
      · cases h
    · cases h
  · cases h
theorem fn_ok (F : Fits D X T E) {f : Str} {ps : List Str} {as : List Expr} {ks : List Keyword} {p : Pos} {g : ES} (hr : Ok1 X T E (r D)) (hf : globB D.sc f = true) (hG : D.G f = some (.fn ps)) (hs : as.any isStar = false) (h : fnD r D f ps as ks = some g) : L2.PE X (.Call (.Name f p) as ks pos) (tEX X T E g) := by
  unfold fnD at h
  split at h
  · rename_i hc
    simp only [Bool.and_eq_true, decide_eq_true_eq] at hc
    obtain ⟨⟨h1, h2⟩, h3⟩ := hc
    split at h
    · split at h
      · rename_i hl
        obtain ⟨xs, e1, rfl⟩ := map_some h
        cases as with
        | nil => cases hl.1
        | cons a as => exact e_call F hf hG h1 h2 h3 (eachE_of hr e1) hs hl.2
      · cases h
    · split at h
      · rename_i hl
        cases as with
        | cons a as => cases hl
        | nil =>
          split at h
          · rename_i ys names e1 e2
            split at h
            · rename_i ix e3
              split at h
              · rename_i hw
                cases h
                exact e_callK F hf hG h1 h2 h3 (eachK_of (fun kw f e => hr _ _ e) e1) e2 e3 hw
              · cases h
            · cases h
          · cases h
      · cases h
  · cases h
theorem hof_ok (F : Fits D X T E) (hN : slotsOk D.N) {n : Nat} (ih : Tells T n) {f : Str} {as : List Expr} {ks : List Keyword} {p : Pos} {g : ES} (hf : globB D.sc f = true) (hG : D.G f = some .hof) (h : hofD (denE n) D f as ks = some g) : L2.PE X (.Call (.Name f p) as ks pos) (tEX X T E g) := by
  unfold hofD at h
  split at h
  · rename_i body scope lp
    split at h
    · rename_i hc
      simp only [Bool.and_eq_true, decide_eq_true_eq] at hc
      obtain ⟨⟨h1, h2⟩, h3⟩ := hc
      obtain ⟨b, e1, rfl⟩ := map_some h
      have L : LamX.LamS X.env.scope scope := by
        rw [F.sc]
        exact LamX.lamS_by h2
      exact F.hof f hG scope body b p lp pos L h3 (F.glob hf) fun A outer s H E2 f' c' hr => ih.e _ _ _ (F.lam L hr) hN _ _ e1
    · cases h
  · cases h
theorem cb_ok (F : Fits D X T E) {f : Str} {as : List Expr} {ks : List Keyword} {p : Pos} {g : ES} (h : cbD D f as ks = some g) : L2.PE X (.Call (.Name f p) as ks pos) (tEX X T E g) := by
  unfold cbD at h
  split at h
  · rename_i x m hc
    split at h
    · rename_i hh
      obtain ⟨rfl, h1, h2⟩ := hh
      obtain ⟨i, ei, rfl⟩ := map_some h
      cases as with
      | cons _ _ => cases h1
      | nil =>
        cases ks with
        | cons _ _ => cases h2
        | nil => exact F.cb f m hc X.pn X.xe E F.takes p pos i (F.slot ei)
    · cases h
  · cases h
theorem call_ok (F : Fits D X T E) (hN : slotsOk D.N) {n : Nat} (ih : Tells T n) {f : Str} {as : List Expr} {ks : List Keyword} {p : Pos} {g : ES} (h : callD (denE n) D f as ks pos = some g) : L2.PE X (.Call (.Name f p) as ks pos) (tEX X T E g) := by
  have hr : Ok1 X T E (denE n D) := ih.e D X E F hN
  unfold callD at h
  split at h
  · cases h
  · rename_i hs
    rw [Bool.not_eq_true] at hs
    split at h
    · rename_i hf
      split at h
      · rename_i ps hG
        exact fn_ok F hr hf hG hs h
      · rename_i hG
        exact hof_ok F hN ih hf hG h
      · cases h
      · rename_i hG
        split at h
        · rename_i hk
          cases ks with
          | cons _ _ => cases hk
          | nil =>
            have hb : bltB D f = true := by
              unfold bltB
              rw [hf, hG]
              rfl
            split at h
            · rename_i ef
              subst ef
              split at h
              · exact isxD_ok F hN hb h
              · exact isi_ok2 F hr hb hs h
            · exact blt_ok F hr hb hs h
        · cases h
    · exact cb_ok F h
/-- the form of a walk -/
def WalkIs (D : DC) (tg e : Expr) : Wlk → Prop
  | .rng1 a => (∃ p q, e = .Call (.Name "range" p) [a] [] q) ∧ bltB D "range" = true ∧ isStar a = false
  | .rng2 a b => (∃ p q, e = .Call (.Name "range" p) [a, b] [] q) ∧ bltB D "range" = true ∧ isStar a = false ∧ isStar b = false
  | .enum a => (∃ p q, e = .Call (.Name "enumerate" p) [a] [] q) ∧ bltB D "enumerate" = true ∧ isStar a = false ∧ isTupE tg = true
  | .zip a b => (∃ p q, e = .Call (.Name "zip" p) [a, b] [] q) ∧ bltB D "zip" = true ∧ isStar a = false ∧ isStar b = false ∧ isTupE tg = true
theorem walk_is {tg e : Expr} {w : Wlk} (h : walkOf D tg e = some w) : WalkIs D tg e w := by
  unfold walkOf at h
  split at h
  · split at h
    · rename_i hc
      rw [Bool.and_eq_true] at hc
      split at h
      · rename_i ef
        cases h
        subst ef
        exact ⟨⟨_, _, rfl⟩, hc.1, by simpa using hc.2⟩
      · split at h
        · rename_i ef
          cases h
          obtain ⟨rfl, ht⟩ := ef
          exact ⟨⟨_, _, rfl⟩, hc.1, by simpa using hc.2, ht⟩
        · cases h
    · cases h
  · split at h
    · rename_i hc
      rw [Bool.and_eq_true, Bool.and_eq_true] at hc
      split at h
      · rename_i ef
        cases h
        subst ef
        exact ⟨⟨_, _, rfl⟩, hc.1.1, by simpa using hc.1.2, by simpa using hc.2⟩
      · split at h
        · rename_i ef
          cases h
          obtain ⟨rfl, ht⟩ := ef
          exact ⟨⟨_, _, rfl⟩, hc.1.1, by simpa using hc.1.2, by simpa using hc.2, ht⟩
        · cases h
    · cases h
  · cases h
theorem tells : ∀ n, Tells T n
  | 0 => ⟨fun _ _ _ _ _ _ _ h => by (unfold denE at h; cases h), fun _ _ _ _ _ _ _ h => by (unfold denT at h; cases h), fun _ _ _ _ _ _ _ _ h => by (unfold denI at h; cases h), fun _ _ _ _ _ _ _ _ _ _ h => by (unfold denE at h; cases h)⟩
  | n + 1 => by
    have ih := tells n
    refine ⟨fun D X E F hN e f h => ?_, fun D X E F hN e f h => ?_, fun D X E F hN tg e f h => ?_, fun D X E F hN a ops bs p f h => ?_⟩
    · have hr : Ok1 X T E (denE n D) := ih.e D X E F hN
      unfold denE at h
      split at h
      · exact constD_ok h
      · exact nameD_ok F hN h
      · exact bin_ok hr h
      · obtain ⟨x, e1, rfl⟩ := map_some h
        exact e_neg (hr _ _ e1)
      · obtain ⟨x, e1, rfl⟩ := map_some h
        exact e_not (hr _ _ e1)
      · obtain ⟨xs, e1, e2⟩ := Option.bind_eq_some_iff.mp h
        exact e_orL (eachE_of hr e1) e2
      · obtain ⟨xs, e1, e2⟩ := Option.bind_eq_some_iff.mp h
        exact e_andL (eachE_of hr e1) e2
      · exact ifE_ok hr (ih.t D X E F hN) h
      · exact (cmp1_ok F.un hr h).1
      · exact (cmp2_ok F.un hr h).1
      · split at h
        · cases h
        · rename_i hs
          obtain ⟨xs, e1, rfl⟩ := map_some h
          exact e_tup (eachE_of hr e1) (by simpa using hs)
      · split at h
        · cases h
        · rename_i hs
          obtain ⟨xs, e1, rfl⟩ := map_some h
          exact e_lst (eachE_of hr e1) (by simpa using hs)
      · exact dict_ok hr h
      · split at h
        · exact slice_ok hr h
        · exact ix_ok F.un hr h
      · obtain ⟨own, i, g, t, x, S, m, rfl, C⟩ := comp_ok F hN ih h
        exact e_comp C
      · exact call_ok F hN ih h
      · exact meth_ok2 hr h
      · exact fldD_ok F hN h
      · cases h
    · have hr : Ok1 X T E (denE n D) := ih.e D X E F hN
      unfold denT at h
      split at h
      · obtain ⟨x, e1, rfl⟩ := map_some h
        exact t_not (ih.t D X E F hN _ _ e1)
      · obtain ⟨xs, e1, e2⟩ := Option.bind_eq_some_iff.mp h
        exact (w_orL (eachT_of (ih.t D X E F hN) e1) e2).pt
      · obtain ⟨xs, e1, e2⟩ := Option.bind_eq_some_iff.mp h
        exact (w_andL (eachT_of (ih.t D X E F hN) e1) e2).pt
      · cases h
      · obtain ⟨x, e1, rfl⟩ := map_some h
        exact ih.c D X E F hN _ _ _ _ _ e1
      · split at h
        · cases h
        rename_i ho
        obtain ⟨x, e1, rfl⟩ := map_some h
        exact t_val (hr _ _ e1) (by simpa using ho)
    · have hr : Ok1 X T E (denE n D) := ih.e D X E F hN
      unfold denI at h
      split at h
      · rename_i a ew
        obtain ⟨⟨p, q, rfl⟩, h1, h2⟩ := walk_is ew
        obtain ⟨x, e1, rfl⟩ := map_some h
        obtain ⟨g, m⟩ := F.blt h1 (by decide +kernel)
        exact i_rng1 g m (hr _ _ e1) h2
      · rename_i a b ew
        obtain ⟨⟨p, q, rfl⟩, h1, h2, h3⟩ := walk_is ew
        split at h
        · rename_i x y e1 e2
          cases h
          obtain ⟨g, m⟩ := F.blt h1 (by decide +kernel)
          exact i_rng2 g m (hr _ _ e1) (hr _ _ e2) h2 h3
        · cases h
      · rename_i a ew
        obtain ⟨⟨p, q, rfl⟩, h1, h2, h3⟩ := walk_is ew
        obtain ⟨x, e1, rfl⟩ := map_some h
        obtain ⟨g, m⟩ := F.blt h1 (by decide +kernel)
        cases tg with
        | Tuple es kk tp => exact i_enum g m (hr _ _ e1) h2
        | _ => cases h3
      · rename_i a b ew
        obtain ⟨⟨p, q, rfl⟩, h1, h2, h3, h4⟩ := walk_is ew
        split at h
        · rename_i x y e1 e2
          cases h
          obtain ⟨g, m⟩ := F.blt h1 (by decide +kernel)
          cases tg with
          | Tuple es kk tp => exact i_zip g m (hr _ _ e1) (hr _ _ e2) h2 h3
          | _ => cases h4
        · cases h
      · obtain ⟨x, e1, rfl⟩ := map_some h
        exact i_seq (hr _ _ e1)
    · have hr : Ok1 X T E (denE n D) := ih.e D X E F hN
      generalize he : Expr.Compare a ops bs p = e at h ⊢
      unfold denE at h
      split at h
      all_goals first | (cases he; done) | skip
      · exact (cmp1_ok F.un hr h).2
      · exact (cmp2_ok F.un hr h).2
      · cases h
end
end HS
end
-- text EvAllS
section
set_option Elab.async false
set_option linter.all false
set_option maxRecDepth 100000

/-! The reading keeps what the text does: statements. -/
namespace HS
open PySem PySem.Spec PyProof.Rows
section
variable {X : L2.Cx} {T : Tx} {E : XK} {pos : Pos} {D : DC}
theorem comp_only {n : Nat} {e : Expr} {f : ES} (hc : isComp e = true) (h : denE (n + 1) D e = some f) : ∃ el tg it ifs scope cp, e = .ListComp el [⟨tg, it, ifs, 0⟩] scope cp ∧ compD (denE n) (denT n) (denI n) D el tg it ifs scope cp = some f := by
  unfold denE at h
  split at h
  all_goals first | (cases hc; done) | skip
  · exact ⟨_, _, _, _, _, _, rfl, h⟩
  · cases h
theorem each_g (F : Fits D X T E) : ∀ {ts : List Expr} {gs : List TGt}, mapO (denG 9 D) ts = some gs → ∃ S, EachG X T ts gs S
  | [], gs, h => by cases h; exact ⟨_, .nil⟩
  | t :: ts, gs, h => by
    obtain ⟨b, r, h1, h2, rfl⟩ := mapO_cons h
    obtain ⟨S, h3⟩ := each_g F h2
    exact ⟨_, .cons (denG_ok F 9 t b h1).1 h3⟩
theorem name_gt {x : Str} {p : Pos} {g : TGt} (h : denG 9 D (.Name x p) = some g) : ∃ i, slotOf D.N x = some i ∧ g = gNm i ∧ (D.sc.names.lookup x = some .local ∨ (D.sc.names.lookup x = some .cell ∧ D.own x = true)) := by
  have h : (if D.sc.names.lookup x = some .local ∨ (D.sc.names.lookup x = some .cell ∧ D.own x = true) then (slotOf D.N x).map gNm else none) = some g := h
  split at h
  · rename_i hl
    obtain ⟨i, e1, rfl⟩ := map_some h
    exact ⟨i, e1, rfl, hl⟩
  · cases h
theorem par2 {a b : Expr} {x y : Str} {px py pt pt2 : Pos} {kt k2 i j : Nat} {es : List ES} (hc : X.calm = true) (hN : X.N.Nodup) (hi : X.N[i]? = some x) (hj : X.N[j]? = some y) (hij : i ≠ j) (hx : X.env.scope.names.lookup x = some .local) (hy : X.env.scope.names.lookup y = some .local)
    (h : EachE X T E [a, b] es) (hs : [a, b].any isStar = false) (hw : swappedStores [.Tuple [.Name x px, .Name y py] kt pt] (.Tuple [a, b] k2 pt2) X.env = pure (some [x, y])) :
    L2.PS X (.Assign [.Tuple [.Name x px, .Name y py] kt pt] (.Tuple [a, b] k2 pt2) pos) (tS X T E (sPar (gAll [gNm i, gNm j]) es)) :=
  PS.imp (L2.ps_par hc hN hi hj hij hx hy (a_all h hs) hw rfl) fun D σ H ⟨hd, ρ, sg, h', rs, rh, p⟩ => ⟨hd, ρ, sg, h', rs, rh, (PostS.thn (RA := RVs (bW X T hd)) p).mono fun vs H1 ⟨ρ1, h1, ws, s1, r1, rv, p1⟩ => by
    have p1 : PostS (bW X T hd) E D ρ1 H1 (match gAll [gNm i, gNm j] ws sg with
      | some σ' => .nx σ' h1
      | none => .stuck) := p1
    cases rv with
    | nil => exact p1.elim
    | cons r1' rr =>
      cases rr with
      | nil => exact p1.elim
      | cons r2' rr =>
        cases rr with
        | cons _ _ => exact p1.elim
        | nil => exact ⟨_, _, rfl, p1 ρ1 H1 _ .refl r1 (((rs.step s1).set i r1').set j r2')⟩⟩
theorem par3 {a b c : Expr} {x y z : Str} {px py pz pt pt2 : Pos} {kt k2 i j l : Nat} {es : List ES} (hc : X.calm = true) (hN : X.N.Nodup) (hi : X.N[i]? = some x) (hj : X.N[j]? = some y) (hl : X.N[l]? = some z) (hij : i ≠ j) (hil : i ≠ l) (hjl : j ≠ l) (hx : X.env.scope.names.lookup x = some .local) (hy : X.env.scope.names.lookup y = some .local) (hz : X.env.scope.names.lookup z = some .local)
    (h : EachE X T E [a, b, c] es) (hs : [a, b, c].any isStar = false) (hw : swappedStores [.Tuple [.Name x px, .Name y py, .Name z pz] kt pt] (.Tuple [a, b, c] k2 pt2) X.env = pure (some [x, y, z])) :
    L2.PS X (.Assign [.Tuple [.Name x px, .Name y py, .Name z pz] kt pt] (.Tuple [a, b, c] k2 pt2) pos) (tS X T E (sPar (gAll [gNm i, gNm j, gNm l]) es)) :=
  PS.imp (L2.ps_par3 hc hN hi hj hl hij hil hjl hx hy hz (a_all h hs) hw rfl) fun D σ H ⟨hd, ρ, sg, h', rs, rh, p⟩ => ⟨hd, ρ, sg, h', rs, rh, (PostS.thn (RA := RVs (bW X T hd)) p).mono fun vs H1 ⟨ρ1, h1, ws, s1, r1, rv, p1⟩ => by
    have p1 : PostS (bW X T hd) E D ρ1 H1 (match gAll [gNm i, gNm j, gNm l] ws sg with
      | some σ' => .nx σ' h1
      | none => .stuck) := p1
    cases rv with
    | nil => exact p1.elim
    | cons r1' rr =>
      cases rr with
      | nil => exact p1.elim
      | cons r2' rr =>
        cases rr with
        | nil => exact p1.elim
        | cons r3' rr =>
          cases rr with
          | cons _ _ => exact p1.elim
          | nil => exact ⟨_, _, _, rfl, p1 ρ1 H1 _ .refl r1 ((((rs.step s1).set i r1').set j r2').set l r3')⟩⟩
theorem two_ne {x y : Str} (h : ([x, y].eraseDups.length != [x, y].length) = false) : x ≠ y := fun e => by
  subst e
  simp [List.eraseDups_cons] at h
theorem three_ne {x y z : Str} (h : ([x, y, z].eraseDups.length != [x, y, z].length) = false) : x ≠ y ∧ x ≠ z ∧ y ≠ z := by
  refine ⟨fun e => ?_, fun e => ?_, fun e => ?_⟩
  · subst e
    by_cases q : z = x <;> simp [List.eraseDups_cons, q] at h
  · subst e
    by_cases q : y = x <;> simp [List.eraseDups_cons, q] at h
  · subst e
    by_cases q : y = x <;> simp [List.eraseDups_cons, q] at h
theorem slot_ne {N : List Str} {i j : Nat} {x y : Str} (hi : N[i]? = some x) (hj : N[j]? = some y) (h : x ≠ y) : i ≠ j := fun e => by
  subst e
  rw [hi] at hj
  exact h (Option.some.inj hj)
theorem assign_ok (F : Fits D X T E) (hN : slotsOk D.N) {n : Nat} (ih : ∀ n, Tells T n) {t e : Expr} {f : SS} (h : assignD (denE n) D t e = some f) : L2.PS X (.Assign [t] e pos) (tS X T E f) := by
  have hr : Ok1 X T E (denE n D) := (ih n).e D X E F hN
  unfold assignD at h
  split at h
  · rename_i x p
    split at h
    · rename_i g f1 e1 e2
      cases h
      cases hc : isComp e with
      | false =>
        obtain ⟨q1, q2⟩ := denG_ok F 9 _ _ e1
        exact s_asg (hr _ _ e2) q1 hc q2 (.inr fun _ _ _ z => nomatch z) fun _ _ z => nomatch z
      | true =>
        cases n with
        | zero => unfold denE at e2; cases e2
        | succ n =>
          obtain ⟨el, tg, it, ifs, scope, cp, rfl, hcp⟩ := comp_only hc e2
          obtain ⟨own, i, g', t, x', S, m, rfl, C⟩ := comp_ok F hN (ih n) hcp
          obtain ⟨j, e3, rfl, hl⟩ := name_gt e1
          refine s_comp C (F.slot e3) ?_ ?_
          · rw [F.sc]
            rcases hl with hl | hl
            · exact .inl hl
            · exact .inr hl.1
          · rw [F.sc]
            rcases hl with hl | hl
            · exact .inr hl
            · exact .inl (F.own x hl.2)
    · cases h
  · rename_i ts kk tp
    split at h
    · cases h
    · rename_i hs
      rw [Bool.not_eq_true, Bool.or_eq_false_iff] at hs
      have hcalm := (F.calm (by simpa using hs.2)).1
      split at h
      · rename_i vs k2 p2
        split at h
        · cases h
        · rename_i hv
          rw [Bool.not_eq_true] at hv
          split at h
          · rename_i r gs es e1 e2 e3
            split at h
            · rename_i hl
              cases h
              have hE := eachE_of hr e3
              have hsw := swap_eq (env := X.env) (k := kk) (k2 := k2) (p := tp) (p2 := p2) (by
                show (if X.env.scope.kind.isAnnotationScope then ScopeKind.function else X.env.scope.kind) = .function
                rw [F.sc, F.kind]
                rfl) (by rw [F.sc]; exact e1)
              cases r with
              | none =>
                obtain ⟨S, hG⟩ := each_g F e2
                refine PS.imp (L2.ps_asg (e_tup hE hv) (g_tup hcalm hG hs.1) rfl hsw rfl) fun D σ H q => par_in hl.1 hl.2 q
              | some names =>
                unfold swapK at e1
                split at e1
                · cases e1
                · rename_i c1
                  split at e1
                  · cases e1
                  · split at e1
                    · cases e1
                    · rename_i c3
                      split at e1
                      · cases e1
                      · split at e1
                        · cases e1
                        · cases e1
                          rw [Bool.not_eq_true, Bool.or_eq_false_iff] at c1 c3
                          have hlen : (swapNames D.sc ts).length = ts.length := by simpa using c3.1
                          have hvl : vs.length = ts.length := by simpa using c1.2
                          have h23 : ts.length = 2 ∨ ts.length = 3 := by
                            have q := c1.1
                            simp at q
                            by_cases z : ts.length = 2
                            · exact .inl z
                            · exact .inr (q z)
                          have nm : ∀ {t : Expr} {x : Str}, lineName D.sc (line0 ts) t = some x → ∀ g, denG 9 D t = some g → ∃ p i, t = .Name x p ∧ X.N[i]? = some x ∧ g = gNm i ∧ X.env.scope.names.lookup x = some .local := fun {t x} hx g hg => by
                            obtain ⟨p, rfl, hloc⟩ := lineName_some hx
                            obtain ⟨i, e4, rfl, _⟩ := name_gt hg
                            exact ⟨p, i, rfl, F.slot e4, rfl, by rw [F.sc]; exact hloc⟩
                          have hnd := nd_slot F
                          rcases h23 with h2 | h3
                          · match ts, vs, h2, hvl with
                            | [t1, t2], [a, b], _, _ =>
                              obtain ⟨x, y, f1, f2, f3⟩ := two_names (f := lineName D.sc (line0 [t1, t2])) (by exact hlen)
                              have f3' : swapNames D.sc [t1, t2] = [x, y] := f3
                              rw [f3'] at c3 hsw
                              have hne := two_ne c3.2
                              obtain ⟨g1, r1, d1, d2, rfl⟩ := mapO_cons e2
                              obtain ⟨g2, r2, d3, d4, rfl⟩ := mapO_cons d2
                              cases d4
                              obtain ⟨p1, i, rfl, s1, rfl, l1⟩ := nm f1 g1 d1
                              obtain ⟨p2', j, rfl, s2, rfl, l2⟩ := nm f2 g2 d3
                              exact par2 hcalm hnd s1 s2 (slot_ne s1 s2 hne) l1 l2 hE hv hsw
                          · match ts, vs, h3, hvl with
                            | [t1, t2, t3], [a, b, c], _, _ =>
                              obtain ⟨x, y, z, f1, f2, f4, f3⟩ := three_names (f := lineName D.sc (line0 [t1, t2, t3])) (by exact hlen)
                              have f3' : swapNames D.sc [t1, t2, t3] = [x, y, z] := f3
                              rw [f3'] at c3 hsw
                              obtain ⟨n1, n2, n3⟩ := three_ne c3.2
                              obtain ⟨g1, r1, d1, d2, rfl⟩ := mapO_cons e2
                              obtain ⟨g2, r2, d3, d4, rfl⟩ := mapO_cons d2
                              obtain ⟨g3, r3, d5, d6, rfl⟩ := mapO_cons d4
                              cases d6
                              obtain ⟨p1, i, rfl, s1, rfl, l1⟩ := nm f1 g1 d1
                              obtain ⟨p2', j, rfl, s2, rfl, l2⟩ := nm f2 g2 d3
                              obtain ⟨p3, l, rfl, s3, rfl, l3⟩ := nm f4 g3 d5
                              exact par3 hcalm hnd s1 s2 s3 (slot_ne s1 s2 n1) (slot_ne s1 s3 n2) (slot_ne s2 s3 n3) l1 l2 l3 hE hv hsw
            · cases h
          · cases h
      · rename_i hnt
        split at h
        · cases h
        · rename_i hc
          split at h
          · rename_i g f1 e1 e2
            cases h
            obtain ⟨q1, q2⟩ := denG_ok F 9 _ _ e1
            refine s_asg (hr _ _ e2) q1 (by simpa using hc) q2 (.inl ?_) fun _ _ z => nomatch z
            cases e with
            | Tuple vs k2 p2 => exact (hnt _ _ _ rfl).elim
            | _ => rfl
          · cases h
  · rename_i o i p
    split at h
    · cases h
    · rename_i hc
      rw [Bool.not_eq_true, Bool.or_eq_false_iff] at hc
      split at h
      · rename_i x y z e1 e2 e3
        cases h
        exact s_put F.un (hr _ _ e1) (hr _ _ e2) (hr _ _ e3) hc.2 hc.1
      · cases h
  · cases h
/-- raise C(..) -/
theorem raise_ok (F : Fits D X T E) {n : Nat} (hr : Ok1 X T E (denE n D)) {c : Str} {p pos2 : Pos} {as : List Expr} {f : SS} (h : raiseD (denE n) D c as = some f) : L2.PS X (.Raise (some (.Call (.Name c p) as [] pos2)) none pos) (tS X T E f) := by
  unfold raiseD at h
  split at h
  · rename_i hc
    simp only [Bool.and_eq_true, Bool.not_eq_true', decide_eq_true_eq] at hc
    obtain ⟨⟨⟨⟨h1, h2⟩, h3⟩, h4⟩, h5⟩ := hc
    split at h
    · rename_i ps hG
      obtain ⟨xs, e1, rfl⟩ := map_some h
      have hm := F.tab.excs c ps hG X E rfl rfl rfl rfl rfl (F.calm h2).1 ((F.calm h2).2.mono h5) (F.glob h1) F.takes as (eAll xs) p pos2 (fun z => by rw [z] at h4; cases h4) h3 (a_all (eachE_of hr e1) h3)
      refine PS.imp (L2.ps_raise (F.calm h2).1 F.takes hm) fun D' σ H ⟨hd, ρ, sg, h', rs, rh, q⟩ => ⟨hd, ρ, sg, h', rs, rh, (PostS.thn (RA := RVs (bW X T hd)) q).mono fun vs H1 ⟨ρ1, h1, ws, s1, r1, rv, p1⟩ => ?_⟩
      have p1 : PostS (bW X T hd) E D' ρ1 H1 (if ws.length = ps.length then .exc (.exc c (ps.zip ws)) h1 else .stuck) := p1
      split at p1
      · rename_i hl
        exact ⟨ρ1, h1, ws, s1, r1, rv, hl, fun cls d H2 ⟨ρ2, s2, r2, x2⟩ => p1 ρ2 H2 cls d s2 r2 x2⟩
      · exact p1.elim
    · cases h
  · cases h
/-! ### try -/
/-- two ways to tell one place: same written part; be, bc: what no value there may name -/
structure Tag (be bc : Bool) (B B' : Bs) : Prop where
  K : B'.K = B.K
  mg : B'.mg = B.mg
  w : B'.w = B.w
  hid : B'.hid = B.hid
  tabs : B'.T.tabs = B.T.tabs
  ex : be = true ∨ B.T.ex = none ∨ B'.T.ex = B.T.ex
  cb : bc = true ∨ B.T.cb = none ∨ B'.T.cb = B.T.cb
section
variable {be bc : Bool} {B B' : Bs} {ρ : List Addr} {H : Hp}
theorem Tag.out (t : Tag be bc B B') {a : Addr} (h : Out B ρ a) : Out B' ρ a := ⟨h.1, by rw [t.hid]; exact h.2⟩
mutual
theorem RV.tag (t : Tag be bc B B') : ∀ {x : V} {v : PV}, RV B ρ H x v → okv be bc v = true → RV B' ρ H x v
  | _, _, .non, _ => .non
  | _, _, .bl b, _ => .bl b
  | _, _, .int i, _ => .int i
  | _, _, .str x, _ => .str x
  | _, _, .tup h r, q => .tup (h.elim (fun h => .inl ⟨h.1, t.out h.2⟩) fun h => .inr (by rw [t.K]; exact h)) (RVs.tag t r (by unfold okv at q; exact q))
  | _, _, .lst h m r, q => .lst h (t.out m) (RVs.tag t r (by unfold okv at q; exact q))
  | _, _, .scr h, _ => .scr (h.elim (fun h => .inl ⟨h.1, t.out h.2⟩) fun h => .inr (by rw [t.K]; exact h))
  | _, _, .dK h r, q => .dK ⟨h.1, t.out h.2⟩ (RKs.tag t r (by unfold okv at q; exact q))
  | _, _, .set h m a b, _ => .set (by rw [t.w]; exact h) (t.out m) a b
  | _, _, .rng h, _ => .rng ⟨h.1, t.out h.2⟩
  | _, _, .ref h, _ => .ref h
  | _, _, .fn h, _ => .fn (by rw [t.mg]; exact h)
  | _, _, .exc h, q => by
    unfold okv at q
    rcases t.ex with e | e | e
    · rw [e] at q; cases q
    · rw [e] at h; cases h
    · exact .exc (by rw [e]; exact h)
  | _, _, .cb h, q => by
    unfold okv at q
    rcases t.cb with e | e | e
    · rw [e] at q; cases q
    · rw [e] at h; cases h
    · exact .cb (by rw [e]; exact h)
theorem RVs.tag (t : Tag be bc B B') : ∀ {xs : List V} {vs : List PV}, RVs B ρ H xs vs → okvs be bc vs = true → RVs B' ρ H xs vs
  | _, _, .nil, _ => .nil
  | _, _, .cons h r, q => by
    unfold okvs at q
    rw [Bool.and_eq_true] at q
    exact .cons (RV.tag t h q.1) (RVs.tag t r q.2)
theorem RKs.tag (t : Tag be bc B B') : ∀ {xs : List (Key × V)} {vs : List (Key × PV)}, RKs B ρ H xs vs → okvk be bc vs = true → RKs B' ρ H xs vs
  | _, _, .nil, _ => .nil
  | _, _, .cons h r, q => by
    unfold okvk at q
    rw [Bool.and_eq_true] at q
    exact .cons (RV.tag t h q.1) (RKs.tag t r q.2)
end
mutual
/-- what a place without exception, without callback holds -/
theorem RV.okv (hx : be = false ∨ B.T.ex = none) (hc : bc = false ∨ B.T.cb = none) : ∀ {x : V} {v : PV}, RV B ρ H x v → HS.okv be bc v = true
  | _, _, .non => rfl
  | _, _, .bl b => rfl
  | _, _, .int i => rfl
  | _, _, .str x => rfl
  | _, _, .tup h r => by unfold HS.okv; exact RVs.okv hx hc r
  | _, _, .lst h m r => by unfold HS.okv; exact RVs.okv hx hc r
  | _, _, .scr h => rfl
  | _, _, .dK h r => by unfold HS.okv; exact RKs.okv hx hc r
  | _, _, .set h m a b => rfl
  | _, _, .rng h => rfl
  | _, _, .ref h => rfl
  | _, _, .fn h => rfl
  | _, _, .exc h => by
    unfold HS.okv
    rcases hx with e | e
    · rw [e]; rfl
    · rw [e] at h; cases h
  | _, _, .cb h => by
    unfold HS.okv
    rcases hc with e | e
    · rw [e]; rfl
    · rw [e] at h; cases h
theorem RVs.okv (hx : be = false ∨ B.T.ex = none) (hc : bc = false ∨ B.T.cb = none) : ∀ {xs : List V} {vs : List PV}, RVs B ρ H xs vs → okvs be bc vs = true
  | _, _, .nil => rfl
  | _, _, .cons h r => by unfold okvs; rw [RV.okv hx hc h, RVs.okv hx hc r]; rfl
theorem RKs.okv (hx : be = false ∨ B.T.ex = none) (hc : bc = false ∨ B.T.cb = none) : ∀ {xs : List (Key × V)} {vs : List (Key × PV)}, RKs B ρ H xs vs → okvk be bc vs = true
  | _, _, .nil => rfl
  | _, _, .cons h r => by unfold okvk; rw [RV.okv hx hc h, RKs.okv hx hc r]; rfl
end
theorem RC.tag (t : Tag be bc B B') {a : Addr} {c : Cell} (r : RC B ρ H a c) (q : okC be bc c = true) : RC B' ρ H a c := by
  cases c with
  | lst vs =>
    obtain ⟨xs, h1, h2⟩ := r
    exact ⟨xs, h1, h2.tag t q⟩
  | dK vs =>
    obtain ⟨xs, h1, h2⟩ := r
    exact ⟨xs, h1, h2.tag t q⟩
  | dT _ => cases q
  | ins _ _ => cases q
theorem RC.okC (hx : be = false ∨ B.T.ex = none) (hc : bc = false ∨ B.T.cb = none) {a : Addr} {c : Cell} (r : RC B ρ H a c) : HS.okC be bc c = true := by
  cases c with
  | lst vs =>
    obtain ⟨xs, h1, h2⟩ := r
    exact h2.okv hx hc
  | dK vs =>
    obtain ⟨xs, h1, h2⟩ := r
    exact h2.okv hx hc
  | dT _ => exact r.elim
  | ins _ _ => exact r.elim
theorem RH.tag {h : Hv} (t : Tag be bc B B') (r : RH B ρ h H) (q : h.all (okC be bc) = true) (hx : XcOk B' ρ H) : RH B' ρ h H :=
  ⟨r.len, r.nd, fun k c a h1 h2 => (r.cell k c a h1 h2).tag t (List.all_eq_true.mp q c (List.mem_of_getElem? h1)), by rw [t.tabs]; exact r.tabs, fun a ha => r.hid a (by rw [← t.hid]; exact ha), hx⟩
theorem RH.okC {h : Hv} (hx : be = false ∨ B.T.ex = none) (hc : bc = false ∨ B.T.cb = none) (r : RH B ρ h H) : h.all (HS.okC be bc) = true := List.all_eq_true.mpr fun c hm => by
  obtain ⟨k, hk⟩ := List.mem_iff_getElem?.mp hm
  have hl : k < ρ.length := by
    rw [r.len]
    exact (List.getElem?_eq_some_iff.mp hk).1
  exact (r.cell k c _ hk (List.getElem?_eq_getElem hl)).okC hx hc
/-- a place with fewer tags: nothing to say of what is not there -/
theorem RS.tag (t : Tag be bc B B') {sg : Sg} {σ : L2.St} (r : RS B ρ H sg σ) (q : ∀ (i : Nat) (v : PV), sg[i]? = some (some v) → HS.okv be bc v = true) : RS B' ρ H sg σ := ⟨r.len, fun i v e => let ⟨x, h1, h2⟩ := r.get i v e; ⟨x, h1, h2.tag t (q i v e)⟩⟩
end
theorem Step.tag {B B' : Bs} {ρ ρ' : List Addr} {H H' : Hp} (ht : B'.T.tabs = B.T.tabs) (s : Step B ρ H ρ' H') : Step B' ρ H ρ' H' := ⟨s.pre, s.keep, s.new, s.live, by rw [ht]; exact s.tabs⟩
theorem blank_rs {B : Bs} {ρ : List Addr} {H : Hp} {σ : L2.St} {n : Nat} (h : σ.length = n) : RS B ρ H (List.replicate n none) σ := ⟨by rw [List.length_replicate, h], fun i v e => by
  rw [List.getElem?_replicate] at e
  split at e <;> cases e⟩
theorem noCall_none {o : Option GK} (h : noCall o = none) : o = none := by
  cases o with
  | none => rfl
  | some g => cases g <;> cases h
theorem noCall_cst {o : Option GK} {v : PV} (h : noCall o = some (.cst v)) : o = some (.cst v) := by
  cases o with
  | none => cases h
  | some g => cases g <;> first | exact h | cases h
theorem noCall_ne (o : Option GK) {g : GK} (hg : (∃ ps, g = .fn ps) ∨ (∃ ps, g = .exc ps) ∨ g = .hof) : noCall o ≠ some g := fun h => by
  cases o with
  | none => cases h
  | some g2 =>
    rcases hg with ⟨ps, rfl⟩ | ⟨ps, rfl⟩ | rfl <;> cases g2 <;> cases h
/-- within the suite -/
theorem Fits.suite (F : Fits D X T E) (hc : D.calm = true) {y c : Str} {a dd C : Addr} {oe : Obj} {pn : List (Addr × Obj)} {fs : List (Str × PV)} (hz : L2.Zc (.ref C) (some dd) oe) (hf : ∃ vs, oe.data = .fields vs) (hk : D.kl c = true) (hm : X.mg c = some (.ref C)) :
    Fits (D.sui y) (X.suite a ((a, oe) :: pn)) ⟨T.tabs, some (a, dd, c, fs), T.cb⟩ E0 where
  N := F.N
  nd := F.nd
  sc := F.sc
  kind := F.kind
  calm := fun h => by cases h
  un := F.un
  gd := F.gd
  own := F.own
  takes := LamX.takes0
  tab := ⟨F.tab.kls, F.tab.sub, F.tab.cat, fun x hx h => F.tab.blt x hx (noCall_none h), fun x v h => F.tab.cst x v (noCall_cst h), fun x ps h => absurd h (noCall_ne _ (.inl ⟨ps, rfl⟩)), fun x ps h => absurd h (noCall_ne _ (.inr (.inl ⟨ps, rfl⟩)))⟩
  hof := fun x h => absurd h (noCall_ne _ (.inr (.inr rfl)))
  stk := fun h => by cases h
  xno := fun h => by cases h
  cb := fun _ _ h => by cases h
  sui := fun _ => ⟨X, a, oe, pn, C, dd, c, fs, rfl, hz, hf, rfl, hk, hm⟩
/-- within the body of a try -/
theorem Fits.tr (F : Fits D X T E) (hh : ∀ x, D.G x ≠ some .hof) (hx : D.ex = none) {E2 : XK} {pn : List (Addr × Obj)} {xe : Value → Shared → Prop} (tk : L2.Takes (X.tr pn xe) (fun cls d _ H => E2 cls d H)) : Fits D (X.tr pn xe) T E2 :=
  ⟨F.N, F.nd, F.sc, F.kind, F.calm, F.un, F.gd, F.own, tk, F.tab, fun x h => absurd h (hh x), F.stk, F.xno, fun x m h pn2 xe2 E3 tk2 p1 p2 => F.cb x m h pn2 xe2 E3 tk2 p1 p2, fun h => absurd hx h⟩
theorem takes_all {W : L2.WX} (t : L2.Takes X W) : L2.Takes X (fun c d _ H => ∀ σ : L2.St, σ.length = X.N.length → W c d σ H) := fun u s' ⟨a, B, sI, pins, σ, H, cls, d, e, I, nb, up, sky, na, os, ag, w⟩ =>
  t u s' ⟨a, B, sI, pins, σ, H, cls, d, e, I, nb, up, sky, na, os, ag, w σ I.len⟩
/-- what the induction carries -/
def TellsS (n : Nat) : Prop := ∀ (T : Tx) (D : DC) (X : L2.Cx) (E : XK), Fits D X T E → slotsOk D.N → PassesOwn (model X.prog X.w) X.A X.env X.xe →
  (∀ st f, denS n D st = some f → L2.PS X st (tS X T E f)) ∧ ∀ sts f, denSs n D sts = some f → L2.PSs X sts (tS X T E f)
/-- what the callback closes over names no exception -/
def NoX (T : Tx) : Prop := ∀ f c q sg σ, T.cb = some (f, c, q, sg, σ) → ∀ (i : Nat) (v : PV), sg[i]? = some (some v) → okv true false v = true
theorem noX_of {hd ρ : List Addr} {H : Hp} (hx : T.ex = none) (r : XcOk (bW X T hd) ρ H) : NoX T := fun f c q sg σ e i v ei => by
  obtain ⟨_, _, rs⟩ := r.cb f c q sg σ e
  obtain ⟨x, _, rv⟩ := rs.get i v ei
  exact RV.okv (B := bW X T hd) (.inr hx) (.inl rfl) rv
theorem tag_in {T' : Tx} {hd : List Addr} (hx : T.ex = none) (ht : T'.tabs = T.tabs) (hc : T'.cb = T.cb) : Tag false false (bW X T hd) (bW X T' hd) := ⟨rfl, rfl, rfl, rfl, ht, .inr (.inl hx), .inr (.inr hc)⟩
theorem tag_out {T' : Tx} {hd : List Addr} (ht : T'.tabs = T.tabs) (hc : T'.cb = T.cb) : Tag true false (bW X T' hd) (bW X T hd) := ⟨rfl, rfl, rfl, rfl, ht.symm, .inl rfl, .inr (.inr hc.symm)⟩
theorem xc_out {T' : Tx} {hd ρ : List Addr} {H : Hp} (hx : T.ex = none) (ht : T'.tabs = T.tabs) (hc : T'.cb = T.cb) (hn : NoX T) (r : XcOk (bW X T' hd) ρ H) : XcOk (bW X T hd) ρ H :=
  ⟨fun a dd c fs e => (nomatch (show (none : Option (Addr × Addr × Str × List (Str × PV))) = some (a, dd, c, fs) from hx.symm.trans e)), fun f c q sg σ e => by
    obtain ⟨h1, h2, h3⟩ := r.cb f c q sg σ (hc.trans e)
    exact ⟨h1, h2, RS.tag (tag_out ht hc) h3 (hn f c q sg σ e)⟩⟩
/-- the end of a suite reaches what is wanted behind the try -/
theorem endX_in {T' : Tx} {D' : L2.Ends} {hd : List Addr} {ρ : List Addr} {H : Hp} {n i : Nat} {r : SR} (hx : T.ex = none) (ht : T'.tabs = T.tabs) (hc : T'.cb = T.cb) (hn : NoX T) (p : PostS (bW X T hd) E D' ρ H (endX n r)) :
    PostS (bW X T' hd) E0 { nx := fun σ H' => D'.nx (σ.set i none) H', rt := D'.rt, bk := fun σ H' => D'.bk (σ.set i none) H', ct := fun σ H' => D'.ct (σ.set i none) H' } ρ H r := by
  cases r with
  | ret v h =>
    have p : PostS (bW X T hd) E D' ρ H (if okv true false v = true ∧ h.all (okC true false) = true then .ret v h else .stuck) := p
    split at p
    · rename_i ho
      exact fun ρ2 H2 x s2 r2 rv => p ρ2 H2 x (Step.tag (B := bW X T' hd) (B' := bW X T hd) ht.symm s2) (RH.tag (tag_out ht hc) r2 ho.2 (xc_out hx ht hc hn r2.xc)) (RV.tag (tag_out ht hc) rv ho.1)
    · exact p.elim
  | nx sg h =>
    have p : PostS (bW X T hd) E D' ρ H (if sg.length = n ∧ h.all (okC true false) = true then .nx (List.replicate n none) h else .stuck) := p
    split at p
    · rename_i ho
      exact fun ρ2 H2 σ s2 r2 rs => p ρ2 H2 (σ.set i none) (Step.tag (B := bW X T' hd) (B' := bW X T hd) ht.symm s2) (RH.tag (tag_out ht hc) r2 ho.2 (xc_out hx ht hc hn r2.xc)) (blank_rs (by rw [List.length_set, ← rs.len]; exact ho.1))
    · exact p.elim
  | brk _ _ => exact p.elim
  | ct _ _ => exact p.elim
  | exc _ _ => exact p.elim
  | stuck => exact p.elim
theorem try_ok (F : Fits D X T E) (hN : slotsOk D.N) {n : Nat} (ih : TellsS n) {body suite : List Stmt} {c y : Str} {p1 p2 : Pos} {f : SS} (h : tryD (denSs n) D body c y suite = some f) : L2.PS X (.Try body [.ExceptHandler (some (.Name c p1)) (some y) suite p2] [] [] pos) (tS X T E f) := by
  unfold tryD at h
  split at h
  · rename_i hc
    simp only [Bool.and_eq_true, Bool.not_eq_true', decide_eq_true_eq, Option.isNone_iff_eq_none] at hc
    obtain ⟨⟨⟨⟨⟨⟨h1, h2⟩, h3⟩, h4⟩, h5⟩, h6⟩, h7⟩ := hc
    split at h
    · rename_i i b g e1 e2 e3
      cases h
      cases suite with
      | nil => cases h3
      | cons st sts =>
        obtain ⟨hdb, CS, hcs⟩ := F.tab.cat c h6
        have hx : T.ex = none := F.xno h4
        obtain ⟨stk, frm, hho⟩ := F.stk h5
        have hi := F.slot e1
        have hnd := nd_slot F
        have rule := L2.ps_try_as (X := X) (x := c) (n := y) (c := .ref CS) (i := i) (body := body) (b₀ := st) (suite := sts) (np := p1) (pos := pos) (pos' := p2) (tb := fun W => tS X T (fun cls d H => ∀ σ : L2.St, σ.length = X.N.length → W cls d σ H) b)
          (ts := fun a cls d Dd σ H => ∃ (cc : Str) (fs : List (Str × PV)) (C dd : Addr), cls = .ref C ∧ d = some dd ∧ D.kl cc = true ∧ X.mg cc = some (.ref C) ∧ tS X ⟨T.tabs, some (a, dd, cc, fs), T.cb⟩ E0 g Dd σ H) (Wout := fun cls d _ H => E cls d H) stk frm hnd hi
          (by show X.env.scope.names.lookup y = some .local; rw [F.sc]; exact h2) ⟨F.glob h1, hdb, .inl hcs⟩ F.takes
          (fun W pn xe tk po => (ih T D (X.tr pn xe) _ (F.tr hho h7 (takes_all tk)) hN po).2 body b e2)
          (fun a oe cls d pn hz hf => ⟨fun pins s σ H Dd I ⟨cc, fs, C, dd, ec, ed, hk, hm, q⟩ => by
            subst ec ed
            exact ((ih ⟨T.tabs, some (a, dd, cc, fs), T.cb⟩ (D.sui y) (X.suite a ((a, oe) :: pn)) E0 (F.suite h4 hz hf hk hm) hN PassesOwn.never).2 (st :: sts) g e3).run pins s σ H Dd I q⟩)
        refine PS.imp rule fun D' σ H ⟨hd, ρ, sg, h', rs, rh, p⟩ => ⟨hd, ρ, sg, h', rs, rh, ?_⟩
        have p : PostS (bW X T hd) E D' ρ H (match b sg h' with
          | .exc (.exc c2 fs) h' => if D.kl c2 = true then (match D.sub c2 c with
            | some true => endX D.N.length (g ((List.replicate D.N.length none).set i (some (.exc c2 fs))) h')
            | some false => .exc (.exc c2 fs) h'
            | none => .stuck) else .stuck
          | .exc _ _ => .stuck
          | r => r) := p
        cases q : b sg h' with
        | nx _ _ => rw [q] at p; exact p
        | ret _ _ => rw [q] at p; exact p
        | brk _ _ => rw [q] at p; exact p
        | ct _ _ => rw [q] at p; exact p
        | stuck => rw [q] at p; exact p
        | exc e h2 =>
          rw [q] at p
          cases e with
          | exc c2 fs =>
            dsimp only at p
            split at p
            · rename_i hk
              intro ρ1 H1 cls d s1 r1 ⟨c3, fs3, C, dx, xs, e3', e4, e5, e6, e7, e8⟩ σ1 hσ
              cases e3'
              subst e4 e6
              have e5 : X.mg c2 = some (.ref C) := e5
              cases hsub : D.sub c2 c with
              | none => rw [hsub] at p; exact p.elim
              | some bb =>
                rw [hsub] at p
                obtain ⟨_, C1, C2, m1, m2, _, k2⟩ := F.tab.sub c2 c bb hk hsub
                rw [e5] at m1
                rw [hcs] at m2
                cases m1
                cases m2
                refine ⟨bb, k2, fun hb a ha => ?_, fun hb => ?_⟩
                · subst hb
                  have p2 := PostS.step p s1
                  refine ⟨c2, fs, C, dx, rfl, rfl, hk, e5, hd, ρ1, _, h2, ?_, ?_, endX_in (T' := ⟨T.tabs, some (a, dx, c2, fs), T.cb⟩) hx rfl rfl (noX_of hx r1.xc) p2⟩
                  · exact (blank_rs (by rw [hσ, F.N])).set i (.exc rfl)
                  · have tg : Tag false false (bW X T hd) (bW X ⟨T.tabs, some (a, dx, c2, fs), T.cb⟩ hd) := tag_in hx rfl rfl
                    refine RH.tag tg r1 (r1.okC (.inl rfl) (.inl rfl)) ⟨fun a2 dd2 c4 fs4 e => ?_, fun f2 c4 q4 sg4 σ4 e => ?_⟩
                    · have e : some (a, dx, c2, fs) = some (a2, dd2, c4, fs4) := e
                      cases e
                      refine ⟨e7.2, xs, e7.1, fun f v ef => ?_⟩
                      obtain ⟨x, g1, g2⟩ := e8 f v ef
                      exact ⟨x, g1, RV.tag tg g2 (RV.okv (.inl rfl) (.inl rfl) g2)⟩
                    · obtain ⟨h1, h2, h3⟩ := r1.xc.cb f2 c4 q4 sg4 σ4 e
                      exact ⟨h1, h2, RS.tag tg h3 fun i v ei => by
                        obtain ⟨x, _, rv⟩ := h3.get i v ei
                        exact RV.okv (.inl rfl) (.inl rfl) rv⟩
                · subst hb
                  exact p ρ1 H1 (.ref C) (some dx) s1 r1 ⟨c2, fs, C, dx, xs, rfl, rfl, e5, rfl, e7, e8⟩
            · exact p.elim
          | _ => exact p.elim
    · cases h
  · cases h
theorem tellsS : ∀ n, TellsS n
  | 0 => fun T D X E F hN hp => ⟨fun _ _ h => by (unfold denS at h; cases h), fun _ _ h => by (unfold denSs at h; cases h)⟩
  | n + 1 => fun T D X E F hN hp => by
    have ihA := tellsS n
    have ih := ihA T D X E F hN hp
    have te := tells (T := T)
    have hr : Ok1 X T E (denE n D) := (te n).e D X E F hN
    refine ⟨fun st f h => ?_, fun sts f h => ?_⟩
    · unfold denS at h
      split at h
      · cases h; exact s_pass
      · cases h; exact s_brk
      · cases h; exact s_ct
      · cases h; exact s_retN
      · obtain ⟨x, e1, rfl⟩ := map_some h
        exact s_ret (hr _ _ e1)
      · split at h
        · cases h
        · rename_i hc
          obtain ⟨x, e1, rfl⟩ := map_some h
          exact s_expr (hr _ _ e1) (by simpa using hc)
      · exact assign_ok F hN te h
      · unfold ifS at h
        split at h
        · rename_i c x y e1 e2 e3
          cases h
          exact s_if ((te n).t D X E F hN _ _ e1) (ih.2 _ _ e2) (ih.2 _ _ e3)
        · cases h
      · unfold forS at h
        split at h
        · rename_i hc
          rw [Bool.and_eq_true] at hc
          split at h
          · rename_i i g b e1 e2 e3
            cases h
            exact s_for hp (F.calm hc.1).1 ((te n).i D X E F hN _ _ _ e1) (denG_ok F 9 _ _ e2).1 (ih.2 _ _ e3) (by simpa using hc.2)
          · cases h
        · cases h
      · unfold whileS at h
        split at h
        · rename_i c b e1 e2
          cases h
          exact s_while hp ((te n).t D X E F hN _ _ e1) (ih.2 _ _ e2)
        · cases h
      · exact raise_ok F hr h
      · exact try_ok F hN ihA h
      · cases h
    · unfold denSs at h
      split at h
      · cases h; exact s_nil
      · split at h
        · rename_i a b e1 e2
          cases h
          exact s_seq (ih.1 _ _ e1) (ih.2 _ _ e2)
        · cases h
end
end HS
end
-- text EvFn
section
set_option Elab.async false
set_option linter.all false
set_option maxRecDepth 100000

/-! A def's meaning, from its body's; what a call leaves behind. -/
namespace HS
open PySem PySem.Spec PyProof.Rows
mutual
/-- no cell from n on is named -/
def nrf (n : Nat) : PV → Bool
  | .ref k => decide (k < n)
  | .tup xs => nrfs n xs
  | .lst xs => nrfs n xs
  | .dK kvs => nrfk n kvs
  | .dT _ | .exc _ _ => false
  | .non | .bl _ | .int _ | .str _ | .set _ | .scr _ | .rng _ _ | .fn _ | .cb => true
def nrfs (n : Nat) : List PV → Bool
  | [] => true
  | v :: vs => nrf n v && nrfs n vs
def nrfk (n : Nat) : List (Key × PV) → Bool
  | [] => true
  | (_, v) :: vs => nrf n v && nrfk n vs
end
def nrfC (n : Nat) : Cell → Bool
  | .lst xs => nrfs n xs
  | .dK kvs => nrfk n kvs
  | .dT _ | .ins _ _ => false
/-- an exception's fields -/
def nrfE (n : Nat) : PV → Bool
  | .exc _ fs => fs.all fun p => nrf n p.2
  | _ => false
/-- cells from n on become values -/
def frzV (n : Nat) (h : Hv) : Nat → PV → Option PV
  | f + 1, v => match v with
    | .ref k => if k < n then some (.ref k) else match h[k]? with
      | some (.lst xs) => (mapO (frzV n h f) xs).map .lst
      | some (.dK kvs) => (mapO (fun (p : Key × PV) => (frzV n h f p.2).map fun v => (p.1, v)) kvs).map .dK
      | _ => none
    | .tup xs => (mapO (frzV n h f) xs).map .tup
    | .lst xs => (mapO (frzV n h f) xs).map .lst
    | .dK kvs => (mapO (fun (p : Key × PV) => (frzV n h f p.2).map fun v => (p.1, v)) kvs).map .dK
    | .dT _ | .exc _ _ => none
    | v => some v
  | 0, _ => none
/-- a call's end: what it made and nothing old names goes -/
def leave (n : Nat) (r : Res PV) : Res PV := match r with
  | .ok v h => if (h.take n).all (nrfC n) = true then (if nrf n v = true then .ok v (h.take n) else match frzV n h 9 v with
    | some v' => .ok v' (h.take n)
    | none => .ok v h) else .ok v h
  | .exc e h => if (h.take n).all (nrfC n) = true ∧ nrfE n e = true then .exc e (h.take n) else .exc e h
  | .stuck => .stuck
def startS (n : Nat) (vs : List PV) : Sg := vs.map some ++ List.replicate (n - vs.length) none
def endS : SR → Res PV
  | .ret v h => .ok v h
  | .nx _ h => .ok .non h
  | .exc e h => .exc e h
  | .brk _ _ | .ct _ _ | .stuck => .stuck
/-- a def: the names' number, the body; lv: whether what it made is left -/
def runF (n : Nat) (m : SS) : List PV → M PV := fun vs h => leave h.length (endS (m (startS n vs) h))
/-- a def that keeps what it made -/
def runK (n : Nat) (m : SS) : List PV → M PV := fun vs h => endS (m (startS n vs) h)
section
variable {B : Bs} {E : XK} {ρ ρ' : List Addr} {H H' : Hp} {h h' : Hv} {n : Nat}
mutual
theorem RV.old (e : ∀ k, k < n → ρ'[k]? = ρ[k]?) (o : ∀ a, Out B ρ' a → Out B ρ a) : ∀ {x : V} {v : PV}, RV B ρ' H x v → nrf n v = true → RV B ρ H x v
  | _, _, .non, _ => .non
  | _, _, .bl b, _ => .bl b
  | _, _, .int i, _ => .int i
  | _, _, .str x, _ => .str x
  | _, _, .tup h r, q => .tup (h.elim (fun h => .inl ⟨h.1, o _ h.2⟩) .inr) (RVs.old e o r (by unfold nrf at q; exact q))
  | _, _, .lst h m r, q => .lst h (o _ m) (RVs.old e o r (by unfold nrf at q; exact q))
  | _, _, .scr h, _ => .scr (h.elim (fun h => .inl ⟨h.1, o _ h.2⟩) .inr)
  | _, _, .dK h r, q => .dK ⟨h.1, o _ h.2⟩ (RKs.old e o r (by unfold nrf at q; exact q))
  | _, _, .set h m a b, _ => .set h (o _ m) a b
  | _, _, .rng h, _ => .rng ⟨h.1, o _ h.2⟩
  | _, _, .ref h, q => .ref (by rw [← e _ (by unfold nrf at q; exact of_decide_eq_true q)]; exact h)
  | _, _, .fn h, _ => .fn h
  | _, _, .exc h, _ => .exc h
  | _, _, .cb h, _ => .cb h
theorem RVs.old (e : ∀ k, k < n → ρ'[k]? = ρ[k]?) (o : ∀ a, Out B ρ' a → Out B ρ a) : ∀ {xs : List V} {vs : List PV}, RVs B ρ' H xs vs → nrfs n vs = true → RVs B ρ H xs vs
  | _, _, .nil, _ => .nil
  | _, _, .cons h r, q => by
    unfold nrfs at q
    rw [Bool.and_eq_true] at q
    exact .cons (RV.old e o h q.1) (RVs.old e o r q.2)
theorem RKs.old (e : ∀ k, k < n → ρ'[k]? = ρ[k]?) (o : ∀ a, Out B ρ' a → Out B ρ a) : ∀ {xs : List (Key × V)} {vs : List (Key × PV)}, RKs B ρ' H xs vs → nrfk n vs = true → RKs B ρ H xs vs
  | _, _, .nil, _ => .nil
  | _, _, .cons h r, q => by
    unfold nrfk at q
    rw [Bool.and_eq_true] at q
    exact .cons (RV.old e o h q.1) (RKs.old e o r q.2)
end
theorem RVs.each {f : PV → Option PV} (hf : ∀ x v w, RV B ρ' H x v → f v = some w → RV B ρ H x w) : ∀ {xs : List V} {vs ws : List PV}, RVs B ρ' H xs vs → mapO f vs = some ws → RVs B ρ H xs ws
  | _, _, _, .nil, e => by cases e; exact .nil
  | _, _, _, .cons h r, e => by
    obtain ⟨b, t, h1, h2, rfl⟩ := mapO_cons e
    exact .cons (hf _ _ _ h h1) (RVs.each hf r h2)
theorem RKs.each {f : PV → Option PV} (hf : ∀ x v w, RV B ρ' H x v → f v = some w → RV B ρ H x w) : ∀ {xs : List (Key × V)} {vs ws : List (Key × PV)}, RKs B ρ' H xs vs → mapO (fun (p : Key × PV) => (f p.2).map fun v => (p.1, v)) vs = some ws → RKs B ρ H xs ws
  | _, _, _, .nil, e => by cases e; exact .nil
  | _, _, _, .cons h r, e => by
    obtain ⟨b, t, h1, h2, rfl⟩ := mapO_cons e
    obtain ⟨v, e1, rfl⟩ := map_some h1
    exact .cons (hf _ _ _ h e1) (RKs.each hf r h2)
theorem RV.frz (hR : RH B ρ' h' H) (hp : ρ <+: ρ') (hn : ρ.length = n) : ∀ (f : Nat) (x : V) (v w : PV), RV B ρ' H x v → frzV n h' f v = some w → RV B ρ H x w
  | 0, _, _, _, _, e => by cases e
  | f + 1, x, v, w, r, e => by
    have ix : ∀ k, k < n → ρ'[k]? = ρ[k]? := fun k hk => by
      obtain ⟨t, rfl⟩ := hp
      rw [List.getElem?_append_left (by omega)]
    have out : ∀ a, Out B ρ' a → Out B ρ a := fun a ⟨h1, h2⟩ => ⟨fun z => h1 (hp.subset z), h2⟩
    have ih := RV.frz hR hp hn f
    cases r with
    | non => cases e; exact .non
    | bl b => cases e; exact .bl b
    | int i => cases e; exact .int i
    | str s => cases e; exact .str s
    | tup ht rs =>
      obtain ⟨ws, e1, rfl⟩ := map_some (show (mapO (frzV n h' f) _).map PV.tup = some w from e)
      exact .tup (ht.elim (fun h => .inl ⟨h.1, out _ h.2⟩) .inr) (rs.each ih e1)
    | lst hl ho rs =>
      obtain ⟨ws, e1, rfl⟩ := map_some (show (mapO (frzV n h' f) _).map PV.lst = some w from e)
      exact .lst hl (out _ ho) (rs.each ih e1)
    | scr hl => cases e; exact .scr (hl.elim (fun h => .inl ⟨h.1, out _ h.2⟩) .inr)
    | dK hl rs =>
      obtain ⟨ws, e1, rfl⟩ := map_some (show (mapO (fun (p : Key × PV) => (frzV n h' f p.2).map fun v => (p.1, v)) _).map PV.dK = some w from e)
      exact .dK ⟨hl.1, out _ hl.2⟩ (rs.each ih e1)
    | set hl ho a b => cases e; exact .set hl (out _ ho) a b
    | rng hl => cases e; exact .rng ⟨hl.1, out _ hl.2⟩
    | fn hl => cases e; exact .fn hl
    | exc hl => cases e
    | cb hl => cases e; exact .cb hl
    | @ref k a hk =>
      have e : (if k < n then some (PV.ref k) else match h'[k]? with
        | some (.lst xs) => (mapO (frzV n h' f) xs).map .lst
        | some (.dK kvs) => (mapO (fun (p : Key × PV) => (frzV n h' f p.2).map fun v => (p.1, v)) kvs).map .dK
        | _ => none) = some w := e
      split at e
      · rename_i hlt
        cases e
        exact .ref (by rw [← ix k hlt]; exact hk)
      · rename_i hge
        obtain ⟨c, e1, rc⟩ := hR.tracked hk
        rw [e1] at e
        have ho : Out B ρ a := by
          refine ⟨fun z => ?_, fun z => (hR.hid a z).1 (List.mem_of_getElem? hk)⟩
          obtain ⟨j, hj⟩ := List.mem_iff_getElem?.mp z
          have hjl := (List.getElem?_eq_some_iff.mp hj).1
          have hj' : ρ'[j]? = some a := by rw [ix j (by omega)]; exact hj
          have := (List.getElem?_inj (List.getElem?_eq_some_iff.mp hk).1 hR.nd).mp (hk.trans hj'.symm)
          omega
        cases c with
        | lst xs =>
          obtain ⟨ys, h1, h2⟩ := rc
          obtain ⟨ws, e2, rfl⟩ := map_some e
          exact .lst h1 ho (h2.each ih e2)
        | dK kvs =>
          obtain ⟨ys, h1, h2⟩ := rc
          obtain ⟨ws, e2, rfl⟩ := map_some e
          exact .dK ⟨.inl h1, ho⟩ (h2.each ih e2)
        | dT _ => cases e
        | ins _ _ => cases e
theorem RC.cut (e : ∀ k, k < n → ρ'[k]? = ρ[k]?) (o : ∀ a, Out B ρ' a → Out B ρ a) {a : Addr} {c : Cell} (r : RC B ρ' H a c) (q : nrfC n c = true) : RC B ρ H a c := by
  cases c with
  | lst vs =>
    obtain ⟨xs, h1, h2⟩ := r
    exact ⟨xs, h1, h2.old e o q⟩
  | dK vs =>
    obtain ⟨xs, h1, h2⟩ := r
    exact ⟨xs, h1, h2.old e o q⟩
  | dT _ => cases q
  | ins _ _ => cases q
/-- the old cells alone -/
theorem RH.cut (r : RH B ρ' h' H) (hp : ρ <+: ρ') (hn : ρ.length = n) (q : (h'.take n).all (nrfC n) = true) (hx : XcOk B ρ H) : RH B ρ (h'.take n) H := by
  have hl : n ≤ h'.length := by rw [← r.len, ← hn]; exact hp.length_le
  have ix : ∀ k, k < n → ρ'[k]? = ρ[k]? := fun k hk => by
    obtain ⟨t, rfl⟩ := hp
    rw [List.getElem?_append_left (by omega)]
  refine ⟨by rw [List.length_take, hn]; omega, r.nd.sublist hp.sublist, fun k c a h1 h2 => ?_, r.tabs, fun a ha => ⟨fun z => (r.hid a ha).1 (hp.subset z), (r.hid a ha).2⟩, hx⟩
  have hk : k < n := by
    have := (List.getElem?_eq_some_iff.mp h2).1
    omega
  have h1' : h'[k]? = some c := by rw [List.getElem?_take_of_lt hk] at h1; exact h1
  exact (r.cell k c a h1' (by rw [ix k hk]; exact h2)).cut ix (fun a ⟨x, y⟩ => ⟨fun z => x (hp.subset z), y⟩) (List.all_eq_true.mp q c (List.mem_of_getElem? h1))
theorem Step.cut (s : Step B ρ H ρ' H') : Step B ρ H ρ H' := ⟨List.prefix_refl _, s.keep, fun _ h => .inl h, s.live, s.tabs⟩
/-- what is wanted behind the call's end is reached by the body's -/
theorem leave_ok {r : Res PV} {Q : L2.VK} (hn : ρ.length = n) (hx : XcOk B ρ H) (p : PostV B E ρ H (leave n r) Q) : PostV B E ρ H r Q := by
  cases r with
  | stuck => exact p
  | ok v h1 =>
    have p : PostV B E ρ H (if (h1.take n).all (nrfC n) = true then (if nrf n v = true then .ok v (h1.take n) else match frzV n h1 9 v with
      | some v' => .ok v' (h1.take n)
      | none => .ok v h1) else .ok v h1) Q := p
    split at p
    · rename_i q
      split at p
      · rename_i q2
        intro ρ' H' x s rh rv
        have hp := s.pre
        refine p ρ H' x s.cut (rh.cut hp hn q (hx.step s.cut)) (rv.old (n := n) (fun k hk => ?_) (fun a ⟨x, y⟩ => ⟨fun z => x (hp.subset z), y⟩) q2)
        obtain ⟨t, rfl⟩ := hp
        rw [List.getElem?_append_left (by omega)]
      · split at p
        · rename_i v' ev
          intro ρ' H' x s rh rv
          exact p ρ H' x s.cut (rh.cut s.pre hn q (hx.step s.cut)) (RV.frz rh s.pre hn 9 x v v' rv ev)
        · exact p
    · exact p
  | exc e h1 =>
    have p : PostV B E ρ H (if (h1.take n).all (nrfC n) = true ∧ nrfE n e = true then .exc e (h1.take n) else .exc e h1) Q := p
    split at p
    · rename_i q
      intro ρ' H' cls d s rh rx
      have hp := s.pre
      refine p ρ H' cls d s.cut (rh.cut hp hn q.1 (hx.step s.cut)) ?_
      obtain ⟨c, fs, C, dx, xs, rfl, h2, h3, h4, h5, h6⟩ := rx
      refine ⟨c, fs, C, dx, xs, rfl, h2, h3, h4, ⟨h5.1, fun z => h5.2.1 (hp.subset z), h5.2.2⟩, fun f v ev => ?_⟩
      obtain ⟨x, g1, g2⟩ := h6 f v ev
      have hm : (f, v) ∈ fs := PySem.mem_of_lookup ev
      refine ⟨x, g1, g2.old (n := n) (fun k hk => ?_) (fun a ⟨x, y⟩ => ⟨fun z => x (hp.subset z), y⟩) (List.all_eq_true.mp q.2 _ hm)⟩
      obtain ⟨t, rfl⟩ := hp
      rw [List.getElem?_append_left (by omega)]
    · exact p
end
end HS
end
-- text EvDef
section
set_option Elab.async false
set_option linter.all false
set_option maxRecDepth 100000

/-! A def of the text keeps the promise that its body's meaning makes. -/
namespace HS
open PySem PySem.Spec PyProof.Rows
section
variable {P : Program} {w : World} {K : PySem.W.Frag} {mg : Str → Option Value} {base : Heap} {T : Tx} {D : DC}
theorem start_rs {B : Bs} {ρ : List Addr} {H : Hp} {N : List Str} {xs : List V} {vs : List PV} (r : RVs B ρ H xs vs) : RS B ρ H (startS N.length vs) (L2.start N xs) := by
  have hl := r.length
  refine ⟨by unfold startS L2.start; simp only [List.length_append, List.length_map, List.length_replicate]; omega, fun i v e => ?_⟩
  unfold startS at e
  unfold L2.start
  by_cases hi : i < vs.length
  · rw [List.getElem?_append_left (by rw [List.length_map]; exact hi), List.getElem?_map] at e
    cases q : vs[i]? with
    | none => rw [q] at e; cases e
    | some u =>
      rw [q] at e
      cases e
      obtain ⟨x, h1, h2⟩ := r.get q
      exact ⟨x, by rw [List.getElem?_append_left (by rw [List.length_map]; omega), List.getElem?_map, h1]; rfl, h2⟩
  · rw [List.getElem?_append_right (by rw [List.length_map]; omega), List.getElem?_replicate] at e
    split at e <;> cases e
theorem end_s {B : Bs} {E : XK} {ρ : List Addr} {H : Hp} {Q : L2.VK} {r : SR} (p : PostV B E ρ H (endS r) Q) : PostS B E { nx := fun _ H' => Q .non H', rt := Q } ρ H r := by
  cases r with
  | nx sg h => exact fun ρ' H' σ s rh _ => p ρ' H' .non s rh .non
  | ret v h => exact p
  | brk _ _ => exact p.elim
  | ct _ _ => exact p.elim
  | exc e h => exact p
  | stuck => exact p
/-- how a def ends: kept or left -/
def runD (keep : Bool) (n : Nat) (m : SS) : List PV → M PV := if keep then runK n m else runF n m
theorem runD_in {B : Bs} {E : XK} {ρ : List Addr} {H : Hp} {h : Hv} {Q : L2.VK} {keep : Bool} {n : Nat} {m : SS} {vs : List PV} (rh : RH B ρ h H) (p : PostV B E ρ H (runD keep n m vs h) Q) : PostV B E ρ H (endS (m (startS n vs) h)) Q := by
  unfold runD at p
  cases keep with
  | true => exact p
  | false => exact leave_ok rh.len rh.xc p
/-- the context of a body -/
theorem fits_body {N ps : List Str} {qual : Str} {scope : Scope} {f : Addr} {cdv : Value} {A : Around} {outer : List Env} {s : Shared} {H : Hp} {E : XK} (S : L2.FnScope N ps scope) (hN : D.N = N) (hs : D.sc = scope) (tab : TabOk P w K mg base T D)
    (hof : ∀ x, D.G x = some .hof → HofAt D (L2.cxOf (L2.CX P w) P w K mg base N qual scope f cdv A outer s H E) T E x) (hr : L2.Room D.k (A.deeper (envOfC qual scope s.heap.objs.size f cdv))) (hg : D.gd = true → A.guards = some []) (hx : T.ex = none) (hex : D.ex = none) (hcb : D.cb = none) (htr : D.tr = true → ∀ x, D.G x ≠ some .hof) : Fits D (L2.cxOf (L2.CX P w) P w K mg base N qual scope f cdv A outer s H E) T E where
  N := hN.symm
  nd := by rw [hN]; exact S.nd
  sc := hs.symm
  kind := by rw [hs]; exact S.kind
  calm := fun _ => ⟨rfl, hr⟩
  un := by
    have q := hr.un
    show (A.deeper (envOfC qual scope s.heap.objs.size f cdv)).units + 200 < cLine
    omega
  gd := fun z => by
    have q := hg z
    exact q
  own := fun _ _ => rfl
  takes := L2.takes_of rfl rfl rfl rfl
  tab := tab
  hof := hof
  stk := fun h => ⟨rfl, rfl, htr h⟩
  xno := fun _ => hx
  cb := fun x m h => by rw [hcb] at h; cases h
  sui := fun h => absurd hex h
theorem fnG_of {b keep : Bool} {f : Addr} {name qual : Str} {params : Arguments} {body : List Stmt} {scope : Scope} {dV kV doc pm cdv ct oc : Value} {an od : Option Addr} {osl : Array (Option Value)} {N ps : List Str} {n : Nat} {m : SS}
    (lk : K.lookup f = some ⟨oc, od, .func (PySem.W.fnOf name qual params body scope dV kV doc pm an cdv ct), osl⟩) (hcd : PySem.W.codeIn K cdv qual = true) (S : L2.FnScope N ps scope) (hN : D.N = N) (hs : D.sc = scope) (tab : TabOk P w K mg base T D)
    (hof : ∀ (A : Around) (outer : List Env) (s : Shared) (H : Hp) (E : XK), L2.Room D.k (A.deeper (envOfC qual scope s.heap.objs.size f cdv)) → (D.gd = true → A.guards = some []) → ∀ x, D.G x = some .hof → HofAt D (L2.cxOf (L2.CX P w) P w K mg base N qual scope f cdv A outer s H E) T E x) (hsl : slotsOk N)
    (hgd : D.gd = true → b = true) (hx : T.ex = none) (hex : D.ex = none) (hcb : D.cb = none) (htr : D.tr = true → ∀ x, D.G x ≠ some .hof) (hden : denSs n D body = some m) :
    FnG b P w K mg base (D.k + 1) f (PySem.W.fnOf name qual params body scope dV kV doc pm an cdv ct) ps (spOf ⟨K, mg, T, w, []⟩ ps.length (runD keep N.length m)) := by
  have hlen : ∀ vs H Q E, spOf ⟨K, mg, T, w, []⟩ ps.length (runD keep N.length m) vs H Q E → vs.length = ps.length := fun vs H Q E ⟨hd, ρ, h, ws, h1, h2, h3, h4⟩ => by rw [h3.length, h1]
  refine ⟨hlen, fun A outer s H args us vs Q E hr hg e0 hb r hsp => ?_⟩
  have hl := hlen _ _ _ _ hsp
  have kx : K.In s.heap := e0.mod.kin.keeps fun a o e => (e0.bs a o e).1
  have kinds : ∀ y ∈ ps.zip us, scope.names.lookup y.1 = some .local ∨ (scope.names.lookup y.1 = some .cell ∧ ((cellsFrom (s.heap.objs.size + 1) scope.names []).lookup y.1).isSome = true) := fun y hy => by
    rcases S.par y.1 (List.of_mem_zip (show (y.1, y.2) ∈ ps.zip us from hy)).1 with q | q
    · exact .inl q
    · exact .inr ⟨q, PySem.W.cellsFrom_some _ _ _ (.inl q)⟩
  refine codeAny_call_function hr.depth (kx f _ lk) rfl S.co S.gen rfl (PySem.W.codeRec_of kx hcd) (hb _ _ _ _ (wpAny_newFunctionEnv_cells S.kind kinds fun env he s1 x => ?_))
  subst he
  have nl : s.heap.NoLimit := e0.mod.nolimit.keeps fun a o e => (e0.bs a o e).1
  refine ⟨nl.keeps x.toInCall.keep, codeAny_func ?_⟩
  have F : Fits D (L2.cxOf (L2.CX P w) P w K mg base N qual scope f cdv A outer s H E) T E := fits_body S hN hs tab (hof A outer s H E (hr.deeper _) fun z => hg (hgd z)) (hr.deeper _) (fun z => hg (hgd z)) hx hex hcb htr
  have hp : PassesOwn (model P w) (A.deeper (envOfC qual scope s.heap.objs.size f cdv)) (envOfC qual scope s.heap.objs.size f cdv) (L2.cxOf (L2.CX P w) P w K mg base N qual scope f cdv A outer s H E).xe := L2.passes_of (X := L2.cxOf (L2.CX P w) P w K mg base N qual scope f cdv A outer s H E) rfl
  have run := (tellsS n T D _ E F (by rw [hN]; exact hsl) hp).2 body m hden
  obtain ⟨hd, ρ, h, ws, h1, h2, h3, h4⟩ := hsp
  refine wpAny_mono (run.run [] s1 (L2.start N vs) H { nx := fun _ H' => Q .non H', rt := Q } (L2.inv_start S hr.hd e0 hl r x) ⟨hd, ρ, startS N.length ws, h, start_rs h3, h2, end_s (runD_in h2 h4)⟩) (fun fl s' q => ?_) fun e s' q => q
  cases fl with
  | ret u =>
    obtain ⟨v, σ', H', J, rv, q⟩ := q
    exact ⟨v, H', J.os, J.bare, J.base, J.hok, rv, q⟩
  | next =>
    obtain ⟨σ', H', J, q⟩ := q
    exact ⟨.non, H', J.os, J.bare, J.base, J.hok, rfl, q⟩
  | brk =>
    obtain ⟨_, _, _, q⟩ := q
    exact q.elim
  | cont =>
    obtain ⟨_, _, _, q⟩ := q
    exact q.elim
end
end HS
end
-- text EvExc
section
set_option Elab.async false
set_option linter.all false
set_option maxRecDepth 100000

/-! Own exception classes below Exception, with an __init__ that keeps its one argument. -/
namespace HS
open PySem PySem.Spec PyProof.Rows PySem.HandSPX
open Builtin Builtin.ObjectAttr
/-- own classes, then Exception's -/
def exRow : List Value → Bool
  | .ref _ :: r => exRow r
  | l => l == PySem.ESX.exTail
theorem exRow_or : ∀ l : List Value, exRow l = true → (∃ c r, l = .ref c :: r ∧ exRow r = true) ∨ l = PySem.ESX.exTail
  | .ref c :: r, e => .inl ⟨c, r, rfl, e⟩
  | [], e => .inr (eq_of_beq e)
  | .none :: _, e => .inr (eq_of_beq e)
  | .ellipsis :: _, e => .inr (eq_of_beq e)
  | .notImplemented :: _, e => .inr (eq_of_beq e)
  | .bool _ :: _, e => .inr (eq_of_beq e)
  | .int _ _ :: _, e => .inr (eq_of_beq e)
  | .float _ _ :: _, e => .inr (eq_of_beq e)
  | .str _ _ :: _, e => .inr (eq_of_beq e)
  | .bytes _ _ :: _, e => .inr (eq_of_beq e)
  | .type _ :: _, e => .inr (eq_of_beq e)
  | .builtin _ :: _, e => .inr (eq_of_beq e)
theorem exRow_pass (self : Value) : ∀ l : List Value, exRow l = true → refuseLoop self "__setattr__" l = pure ()
  | [], e => absurd e (by decide)
  | a :: r, e => by
    rcases exRow_or _ e with ⟨c, r', q, h⟩ | q
    · cases q
      rw [refuseLoop_ref]
      exact exRow_pass self _ h
    · rw [q]
      exact F.store_Exception.passes self
theorem exRow_has (X : String) : ∀ l : List Value, exRow l = true → l.contains (.type X) = PySem.ESX.exTail.contains (.type X)
  | [], e => absurd e (by decide)
  | a :: r, e => by
    rcases exRow_or _ e with ⟨c, r', q, h⟩ | q
    · cases q
      rw [List.contains_cons, exRow_has X _ h]
      rfl
    · rw [q]
theorem exRow_full {l : List Value} (e : exRow l = true) : l.isEmpty = false := by
  cases l with
  | nil => exact absurd e (by decide)
  | cons _ _ => rfl
/-- what the written part says of such a class -/
structure ExK (K : PySem.W.Frag) (C fI : Addr) : Prop where
  cls : ∃ nm q N bs bm sn sub ab col dd k0 k1 k2 k3 k5, K.lookup C = some (excClassObj nm q C N bs bm true sn sub ab col dd k0 k1 k2 k3 k5 "Exception.__new__") ∧ exRow bm = true
  sa : PySem.W.findIn K (.ref C) "__setattr__" = some (some (.builtin "object.__setattr__"))
  exC : PySem.W.subIn K (.ref C) (.type "BaseException") = some true
  tyC : PySem.W.typeIn K (.ref C) = some (.type "type")
  kC : PySem.W.keepIn K (.ref C) = true
  ini : PySem.W.findIn K (.ref C) "__init__" = some (some (.ref fI))
  tyI : PySem.W.typeIn K (.ref fI) = some (.type "function")
section
variable {prog : Program} {w : World} {A : Around} {R : Result → Shared → Prop} {hp : Heap} {g : Array GenState} {d : Drawn} {t : Nat} {os : OsState}
/-- the first field -/
theorem field_new {K : PySem.W.Frag} {name : Str} {tk : Tok} {v : Value} {x C : Addr} {fv : Array Value} {cd : ClassData} (X : K.In hp) (hx : hp.get? x = some { cls := .ref C, data := .fields fv }) (hcd : PySem.W.clsIn K C = some cd) (hm : exRow cd.mro = true) (hh : cd.hasDict = true) (ha : PySem.W.findIn K (.ref C) name = some none)
    (hq : ∀ h' tk' dx, (∀ b o, b ≠ x → hp.get? b = some o → h'.get? b = some o) → hp.objs.size ≤ dx → dx ≠ x → h'.get? x = some { cls := .ref C, dict := some dx, data := .fields fv } → h'.Ns1 dx (fun y => if y = name then some v else none) → R (.ok (.ret .none)) ⟨h', g, d, tk', os⟩) :
    codeAny (model prog w) A (.call (.builtin "object.__setattr__") ⟨[.ref x, .str name tk, v], []⟩) R ⟨hp, g, d, t, os⟩ := by
  have I : PySem.W.InstAt hp x { cls := .ref C, data := .fields fv } C none := ⟨hx, rfl, rfl, trivial⟩
  have lt : x ≠ hp.objs.size := Nat.ne_of_lt (Heap.lt_size hx)
  have SF := F.store_object
  have hob : cd.mro.contains (.type "object") = true := (exRow_has "object" _ hm).trans (by decide +kernel)
  have sub : PySem.W.Looks (model prog w) hp (isInstance (.ref x) (.type "object")) true := I.type.andThen (PySem.W.looks_mroIn X (by
    unfold PySem.W.mroIn
    rw [hcd, Option.bind_some, if_neg (by rw [exRow_full hm]; decide), hob]))
  have row : PySem.W.Looks (model prog w) hp (mroOf (.ref C)) cd.mro := (PySem.W.looks_clsIn X hcd).andThen .now
  have taker : PySem.W.Looks (model prog w) hp (storeTaker? none) none := .now
  have data : PySem.W.Looks (model prog w) hp (classData C) cd := PySem.W.looks_clsIn X hcd
  have args := SF.args (.ref x) (.str name tk) v
  refine codeAny_call_builtin SF.slot.plain SF.entry (@PySem.W.check_slot (model prog w) A.in1 _ ⟨hp, g, d, t, os⟩ _ _ _ (.ref x) [.str name tk, v] [] _ SF.kind SF.split sub args ?_)
  rw [PySem.W.osa_eq, refuse_eq]
  refine wpAny_bind (wpAny_bind (I.type.at (wpAny_bind (row.at ?_))))
  rw [exRow_pass _ _ hm]
  refine wpAny_pure (wpAny_bind (I.type.at (wpAny_bind ((PySem.W.looks_findIn X ha).at (wpAny_bind (taker.at ?_))))))
  show wpAny _ _ (storeInOwnDict (.ref x) (.ref C) (.str name tk) name v false) _ _ _
  obtain ⟨_, _, mro, _, _, hd, _, _, _, _, _⟩ := cd
  cases (show hd = true from hh)
  unfold storeInOwnDict ownDictForStores
  repeat (first | with_reducible refine store_in_new ?_ ?_ | with_reducible refine wpAny_loadPart_at hx ?_ | with_reducible refine data.at ?_ | wp_step)
  · exact ⟨_, #[], _, (Heap.get?_update_ne _ _ _ _ lt.symm).trans (Heap.get?_push_at rfl rfl), rfl, fun e he => absurd he (by simp), fun _ => rfl⟩
  · intro h' tk' hn' sb
    refine hq h' tk' hp.objs.size (fun b o hb ho => (sb.2 b (Nat.ne_of_lt (Heap.lt_size ho))).trans ?_) (Nat.le_refl _) lt.symm ((sb.2 x lt).trans ?_) hn'
    · exact (Heap.get?_update_ne _ _ _ _ hb).trans (Heap.get?_push_of_some _ ho)
    · exact Heap.get?_update_self _ (Heap.get?_push_of_some _ hx) rfl
end
section
variable {X : L2.Cx} {pins : List (Addr × Obj)} {σ : L2.St} {H : Hp} {s : Shared} {a C fI : Addr} {f : Str} {y : V} {u : Value} {Q : Unit → Shared → Prop} {E : Value → Shared → Prop} {A : Around}
theorem fld_new (T : ExK X.K C fI) (I : L2.Inv X pins σ H s) (e : H a = some (L2.exo a C none)) (hno : PySem.W.findIn X.K (.ref C) f = some none) (ry : L2.RelV y u)
    (h : ∀ dx s', H dx = none → dx ≠ a → L2.Inv X pins σ (L2.upd (L2.upd H dx (L2.exd dx [(f, y)])) a (L2.exo a C (some dx))) s' → Q () s') : wpAny (model X.prog X.w) A (setAttr (.ref a) f u) Q E s := by
  obtain ⟨nm, q, N, bs, bm, sn, sub, ab, col, dd, k0, k1, k2, k3, k5, hC, hbm⟩ := T.cls
  have hcl : PySem.W.clsIn X.K C = some { name := nm, bases := bs, mro := .ref C :: bm, ns := N, qualname := q, hasDict := true, slotNames := sn, subclasses := sub, abstract := ab, collection := col, hasDel := false } := by
    unfold PySem.W.clsIn
    rw [hC] <;> rfl
  obtain ⟨t1, ho⟩ := L2.exo_at I.hok e
  obtain ⟨hp, g, d, t, os⟩ := s
  refine PySem.W.set_plain I.kIn (ox := { cls := .ref C, dict := none, data := .fields #[.ref t1, .none, .none, .none, .bool false, .none] }) (od := none) ⟨ho, rfl, rfl, trivial⟩ T.sa (field_new I.kIn ho hcl (show exRow (.ref C :: bm) = true from hbm) rfl hno fun h' tk' dx k dn dne hx hn => ?_)
  have nw : H dx = none := I.hok.fresh dn
  have n1 : ∀ {b : Addr} {o : Obj}, hp.get? b = some o → b ≠ dx := fun {b o} q => Nat.ne_of_lt (Nat.lt_of_lt_of_le (Heap.lt_size q) dn)
  have n2 : ∀ {b : Addr}, H b = none → b ≠ a := fun {b} n z => by
    rw [z, e] at n
    cases n
  have un : L2.Un X.fs [] H (L2.upd (L2.upd H dx (L2.exd dx [(f, y)])) a (L2.exo a C (some dx))) hp h' := {
    keep := fun b o q n _ _ => k b o (n2 n) q
    slot := fun b o q n _ _ => ⟨o.slots, k b o (n2 n) q⟩
    free := fun b o q n _ => (L2.upd_ne (n2 n)).trans ((L2.upd_ne (n1 q)).trans n)
    there := fun b o q _ => by
      by_cases hb : b = a
      · exact ⟨_, hb.symm ▸ hx⟩
      · exact ⟨o, k b o hb q⟩
    tups := fun b xs q => (L2.upd_ne (L2.at_ne e q L2.exo_tup)).trans ((L2.upd_ne (L2.ne_of_none q nw)).trans q)
    frzs := fun b o v q => (L2.upd_ne (L2.at_ne e q L2.exo_frz)).trans ((L2.upd_ne (L2.ne_of_none q nw)).trans q)
    tbls := fun b ps q => ⟨#[], by rw [Array.append_empty]; exact (L2.upd_ne (L2.at_ne e q L2.exo_tbl)).trans ((L2.upd_ne (L2.ne_of_none q nw)).trans q)⟩ }
  refine h dx _ nw dne (I.un (t' := tk') un fun b o q => ?_)
  by_cases hb : b = a
  · rw [hb, L2.upd_same] at q
    cases q
    rw [hb]
    exact L2.exo_ok hx
  · rw [L2.upd_ne hb] at q
    by_cases hd : b = dx
    · rw [hd, L2.upd_same] at q
      cases q
      rw [hd]
      exact L2.exd_ok hn (L2.relO_put (fs := []) ry fun _ => True.intro)
    · rw [L2.upd_ne hd] at q
      refine (I.hok b o q).stay (fun c v hc z => k c v (hc.elim (fun hc => by rw [hc]; exact hb) fun hc => L2.at_ne e hc L2.exo_own) z) (fun c hc => ?_) fun c xs hc => ?_
      · exact (L2.upd_ne (L2.at_ne e hc L2.exo_own)).trans ((L2.upd_ne (L2.ne_of_none hc nw)).trans hc)
      · exact (L2.upd_ne (L2.at_ne e hc L2.exo_tup)).trans ((L2.upd_ne (L2.ne_of_none hc nw)).trans hc)
end
/-- the promise of such an __init__ -/
def spInit (K : PySem.W.Frag) (fI : Addr) (f : Str) : L2.Sp := fun xs H Q _ => ∃ (a C : Addr) (y : V), xs = [.ref a, y] ∧ ExK K C fI ∧ PySem.W.findIn K (.ref C) f = some none ∧ H a = some (L2.exo a C none) ∧
  ∀ dx, H dx = none → dx ≠ a → Q .non (L2.upd (L2.upd H dx (L2.exd dx [(f, y)])) a (L2.exo a C (some dx)))
section
variable {P : Program} {w : World} {K : PySem.W.Frag} {mg : Str → Option Value} {base : Heap}
theorem init_fn {k : Nat} {fI : Addr} {name qual ps0 ps1 f : Str} {params : Arguments} {scope : Scope} {dV kV doc pm cdv ct oc : Value} {an od : Option Addr} {osl : Array (Option Value)} {p1 p2 p3 p4 : Pos}
    (lk : K.lookup fI = some ⟨oc, od, .func (PySem.W.fnOf name qual params [.Assign [.Attribute (.Name ps0 p1) f p2] (.Name ps1 p3) p4] scope dV kV doc pm an cdv ct), osl⟩) (hcd : PySem.W.codeIn K cdv qual = true) (S : L2.FnScope [ps0, ps1] [ps0, ps1] scope) (hs : slotsOk [ps0, ps1]) :
    L2.FnOk P w K mg base (L2.CX P w) (k + 1) fI (PySem.W.fnOf name qual params [.Assign [.Attribute (.Name ps0 p1) f p2] (.Name ps1 p3) p4] scope dV kV doc pm an cdv ct) [ps0, ps1] (spInit K fI f) := by
  refine L2.fn_of lk hcd S (fun vs H Q E ⟨a, C, y, e, _⟩ => by rw [e]; rfl) fun A outer s H vs Q E hr ⟨a, C, y, e, T, hno, ha, q⟩ => ?_
  subst e
  have vis : ∀ x ∈ [ps0, ps1], L2.Vis scope x := fun x hx => (S.par x hx).elim .inl fun z => .inr (.inl z)
  refine ⟨fun D σ H1 => σ = L2.start [ps0, ps1] [.ref a, y] ∧ H1 = H ∧ ∀ dx, H dx = none → dx ≠ a → D.nx σ (L2.upd (L2.upd H dx (L2.exd dx [(f, y)])) a (L2.exo a C (some dx))), ⟨fun pins s1 σ H1 D I ⟨e1, e2, q1⟩ => ?_⟩, rfl, rfl, fun dx h1 h2 => q dx h1 h2⟩
  subst e1 e2
  refine wpAny_execs_cons (plainObj_wpAny_Assign_Attribute (L2.thn ((L2.pe_var (i := 1) rfl (vis ps1 (by simp)) (hs ps1 (by simp)).1 (hs ps1 (by simp)).2).run pins s1 _ H1 (fun x H2 => x = y ∧ H2 = H1) I ⟨y, rfl, rfl, rfl⟩) fun v s2 ⟨x, H2, I2, rx, ex, eH⟩ => ?_) rfl)
  subst ex eH
  refine L2.thn ((L2.pe_var (i := 0) rfl (vis ps0 (by simp)) (hs ps0 (by simp)).1 (hs ps0 (by simp)).2).run pins s2 _ H2 (fun x H2' => x = .ref a ∧ H2' = H2) I2 ⟨.ref a, rfl, rfl, rfl⟩) fun ov s3 ⟨x0, H3, I3, rx0, ex0, eH3⟩ => ?_
  subst ex0 eH3
  cases rx0
  exact fld_new T I3 ha hno rx fun dx s4 n1 n2 J => wpAny_execs_nil ⟨_, _, J, q1 dx n1 n2⟩
end
section
variable {X : L2.Cx} {T : Tx} {E : XK} {pos : Pos}
/-- C(e): made, its field kept -/
theorem mk_own {C fI : Addr} {c f ps0 ps1 : Str} {fd : FuncData} {es : List Expr} {g : Sg → M (List PV)} {p : Pos} (tk : ExK X.K C fI) (hno : PySem.W.findIn X.K (.ref C) f = some none) (F1 : L2.FnOk X.prog X.w X.K X.mg X.base (L2.CX X.prog X.w) 1 fI fd [ps0, ps1] (spInit X.K fI f)) (hb : L2.Binds X.K fd [ps0, ps1] [])
    (hr : L2.Room 2 X.A) (hg : L2.Gl X c) (hm : X.mg c = some (.ref C)) (hdb : (c == ("__debug__" : Str)) = false) (h0 : es ≠ []) (hs : es.any isStar = false) (ha : L2.PA X es (tAX X T E g)) : L2.PMk X (.Call (.Name c p) es [] pos) (tMk X T E c [f] g) := by
  intro pins s σ H Q I ⟨hd, ρ, sg, h, rs, rh, q⟩
  cases es with
  | nil => exact absurd rfl h0
  | cons e es =>
    have hs' := hs
    rw [List.any_cons, Bool.or_eq_false_iff] at hs'
    obtain ⟨nm, qn, N, bs, bm, sn, sub, ab, col, dd, k0, k1, k2, k3, k5, hC, hbm⟩ := tk.cls
    refine wpAny_Call_Name_kw (L2.ld_glob I hg hm ?_ hdb)
    refine PySem.W.callWith_K (h₀ := X.base) I.ok.mod.kin tk.kC (L2.thn (ha.run pos pins s σ H _ I ⟨hd, ρ, sg, h, rs, rh, q⟩) fun us s1 ⟨xs, H1, I1, r1, ρ1, h1, vs, st1, rh1, rv, hl, fin⟩ => ⟨I1.kIn, ?_⟩) (star_cons hs'.1) (star_any hs'.2)
    show wpAny _ _ (call (.ref C) us) _ _ _
    have hx : ∃ y v, xs = [y] ∧ vs = [v] ∧ RV (bW X T hd) ρ1 H1 y v := by
      cases rv with
      | nil => cases hl
      | cons a b =>
        cases b with
        | nil => exact ⟨_, _, rfl, rfl, a⟩
        | cons _ _ => cases hl
    obtain ⟨y, v, rfl, rfl, ry⟩ := hx
    obtain ⟨u, rfl, ru⟩ := vals1 r1
    obtain ⟨hp, gn, dr, tok, os⟩ := s1
    have lt : hp.objs.size ≤ hp.objs.size + 1 := Nat.le_succ _
    have na : H1 (hp.objs.size + 1) = none := I1.hok.fresh lt
    have kk : ∀ b o, hp.get? b = some o → ((hp.push (PySem.W.kdv_tup [u])).push (PySem.HandSPX.excO C hp.objs.size)).get? b = some o := fun b o e => Heap.get?_push_of_some _ (Heap.get?_push_of_some _ e)
    have got : ((hp.push (PySem.W.kdv_tup [u])).push (PySem.HandSPX.excO C hp.objs.size)).get? (hp.objs.size + 1) = some (PySem.HandSPX.excO C hp.objs.size) := by heap_get
    have I2 : L2.Inv X pins σ (L2.upd H1 (hp.objs.size + 1) (L2.exo (hp.objs.size + 1) C none)) ⟨(hp.push (PySem.W.kdv_tup [u])).push (PySem.HandSPX.excO C hp.objs.size), gn, dr, tok, os⟩ := I1.laid (t' := tok) kk lt (L2.exo_ok got)
    have r2 : L2.Vals [L2.V.ref (hp.objs.size + 1), y] [Value.ref (hp.objs.size + 1), u] := .cons rfl (.cons ru .nil)
    have sp : spInit X.K fI f [L2.V.ref (hp.objs.size + 1), y] (L2.upd H1 (hp.objs.size + 1) (L2.exo (hp.objs.size + 1) C none)) (fun r H2 => r = .non ∧ ∃ dx, H1 dx = none ∧ H2 = L2.upd (L2.upd (L2.upd H1 (hp.objs.size + 1) (L2.exo (hp.objs.size + 1) C none)) dx (L2.exd dx [(f, y)])) (hp.objs.size + 1) (L2.exo (hp.objs.size + 1) C (some dx)) ∧ dx ≠ hp.objs.size + 1) E0 :=
      ⟨_, C, y, rfl, tk, hno, L2.upd_same, fun dx n1 n2 => ⟨rfl, dx, by rw [L2.upd_ne n2] at n1; exact n1, rfl, n2⟩⟩
    have bd := hb ⟨(hp.push (PySem.W.kdv_tup [u])).push (PySem.HandSPX.excO C hp.objs.size), gn, dr, tok, os⟩ [Value.ref (hp.objs.size + 1), u] I2.kIn rfl
    refine wpAny_call (PySem.HandSPX.call_own F.excBase_Exception (fun Y => exRow_has Y bm hbm) (I1.kIn _ _ hC) (PySem.W.looks_findIn I1.kIn tk.ini) (fun self => PySem.W.bind_fn I1.kIn self tk.tyI) (by show 1 ≤ sizeLine; rw [sizeLine_eq]; omega)
      (codeAny_mono (F1.run _ X.stack _ _ ⟨[Value.ref (hp.objs.size + 1), u], []⟩ [Value.ref (hp.objs.size + 1), u] _ _ E0 (hr.make C [u] []) (I2.env0.make C [u] []) bd r2 sp) fun r s' hq => ?_))
    cases r with
    | error er =>
      obtain ⟨_, _, _, _, _, _, _, _, _, _, _, _, z⟩ := hq
      exact z.elim
    | ok fl =>
      cases fl with
      | ret r =>
        obtain ⟨z, H2, os2, bare2, un2, hok2, rz, rfl, dx, nx, rfl, ne⟩ := hq
        obtain ⟨h2, g2, d2, t2, os'⟩ := s'
        refine ⟨rz, L2.mk_end (L2.raises_own tk.exC tk.tyC) I1 lt kk un2 hok2 os2 bare2 L2.upd_same (by rw [L2.upd_ne ne, L2.upd_same]) nx (fin _ _ _ ⟨ρ1, ?_⟩)⟩
        have eH : L2.upd (L2.del (L2.upd (L2.upd (L2.upd H1 (hp.objs.size + 1) (L2.exo (hp.objs.size + 1) C none)) dx (L2.exd dx [(f, y)])) (hp.objs.size + 1) (L2.exo (hp.objs.size + 1) C (some dx))) (hp.objs.size + 1)) dx (.xd [(f, y)]) = L2.upd H1 dx (.xd [(f, y)]) := by
          funext b
          by_cases e1 : b = dx
          · rw [e1, L2.upd_same, L2.upd_same]
          · rw [L2.upd_ne e1, L2.upd_ne e1]
            by_cases e2 : b = hp.objs.size + 1
            · rw [e2, L2.del_same, na]
            · rw [L2.del_ne e2, L2.upd_ne e2, L2.upd_ne e1, L2.upd_ne e2]
        rw [eH]
        have st : Step (bW X T hd) ρ1 H1 ρ1 (L2.upd H1 dx (.xd [(f, y)])) := Step.laid nx
        refine ⟨st, rh1.laid nx, c, [(f, v)], C, dx, [(f, y)], rfl, rfl, hm, rfl, ⟨L2.upd_same, rh1.fresh nx⟩, fun g' v' e => ?_⟩
        cases hb : (g' == f) with
        | true =>
          have e : (match g' == f with
            | true => some v
            | false => none) = some v' := e
          rw [hb] at e
          cases e
          exact ⟨y, by show (match g' == f with
            | true => some y
            | false => none) = some y; rw [hb], ry.step st⟩
        | false =>
          have e : (match g' == f with
            | true => some v
            | false => none) = some v' := e
          rw [hb] at e
          cases e
      | next => exact hq.elim
      | brk => exact hq.elim
      | cont => exact hq.elim
end
end HS
end
-- text EvHof
section
set_option Elab.async false
set_option linter.all false
set_option maxRecDepth 100000

/-! A def that is handed a lambda. -/
namespace HS
open PySem PySem.Spec PyProof.Rows
/-- from one place to a later one: all but the tables is as it was, nothing goes -/
structure Grow (H H1 : Hp) : Prop where
  ext : LamX.ExtN H H1
  live : ∀ b, H b ≠ none → H1 b ≠ none
theorem Grow.refl (H : Hp) : Grow H H := ⟨LamX.ExtN.refl H, fun _ n => n⟩
theorem codeO_nt {c : Addr} {q : Str} : ∀ ps, (LamX.CodeO c q : HO) ≠ .tbl ps := fun _ z => by unfold LamX.CodeO at z; cases z
section
variable {X : L2.Cx} {pins : List (Addr × Obj)} {σ : L2.St} {H : Hp} {s : Shared}
/-- the lambda's function, its code object found or made -/
theorem lam_new {TT : List (Addr × Str)} {co ta : Addr} {pa : Arguments} {bo : Expr} {sc : Scope} {at_ : Pos} {Ex : Value → Shared → Prop} {Aim : Value → Shared → Prop} (I : L2.Inv X pins σ H s) (B : LamX.TabB X.base X.mg co ta) (hco : X.env.code = .ref co)
    (hmem : (ta, X.env.qual ++ "<lambda>") ∈ TT) (hone : ∀ p ∈ TT, p.1 = ta → p.2 = X.env.qual ++ "<lambda>") (tabs : LamX.Tabs TT H) (hd : defaultsOf pa X.env = ([], [])) (hfr : ∀ y ∈ sc.names, y.2 = .free → ∃ c, X.env.cells.lookup y.1 = some c)
    (go : ∀ (f cd : Addr) (pm ctv : Value) (H1 : Hp) (s' : Shared), L2.Inv X pins σ H1 s' → Grow H H1 → LamX.Tabs TT H1 →
      s'.heap.get? f = some (PySem.W.kla_obj "<lambda>" (X.env.qual ++ "<lambda>") pa bo sc (L2.cloFrom X.env.cells sc.names []) pm cd ctv) → H1 f = none → f ∉ L2.frs X.stack → H1 cd = some (LamX.CodeO cd (X.env.qual ++ "<lambda>")) → Aim (.ref f) s') :
    wpAny (model X.prog X.w) X.A (eval (.Lambda pa bo sc at_) X.env) Aim Ex s := by
  obtain ⟨row, eT, tr, names⟩ := tabs _ hmem
  refine PySem.W.kla_eval hd ?_
  have bks : s.heap.BuiltinsAt X.mg ta := B.bm.keeps I.bk
  have gT : s.heap.get? ta = some { cls := .none, data := .fields row } := I.hok ta _ eT
  have out : ∀ f, s.heap.objs.size ≤ f → f ∉ L2.frs X.stack := fun f le z => by
    have q := I.stkSub _ z
    rcases List.mem_cons.mp q with e2 | e2
    · have h1 := I.lt
      rw [← e2] at h1
      exact absurd h1 (Nat.not_lt.mpr le)
    · exact I.nofs le e2
  cases hit : codeAmong at_ row.toList with
  | some cv =>
    obtain ⟨cd, rfl, hcd⟩ := names at_ cv hit
    refine PySem.W.kla_makeFunctionHit (mg := X.mg) (c := co) (P := ta) (ps := row) (L2.closure_ok hfr) I.ok.glob (I.mod.glob.keeps I.bk) hco (B.code.keeps I.bk) gT tr hit bks fun ctv g' tk old le => ?_
    have J : L2.Inv X pins σ H { s with heap := g'.push (PySem.W.kla_obj "<lambda>" (X.env.qual ++ "<lambda>") pa bo sc (L2.cloFrom X.env.cells sc.names []) ((X.mg "__name__").getD .none) cd ctv), toks := tk } := I.kept fun b o e => Heap.get?_push_of_some _ (old b o e)
    exact go g'.objs.size cd ((X.mg "__name__").getD .none) ctv H _ J (Grow.refl H) tabs (Heap.get?_push_size _ rfl) (I.hok.fresh le) (out _ le) hcd
  | none =>
    refine PySem.W.kla_makeFunction (mg := X.mg) (c := co) (P := ta) (ps := row) (L2.closure_ok hfr) I.ok.glob (I.mod.glob.keeps I.bk) hco (B.code.keeps I.bk) gT tr hit B.gP bks fun cd ctv g' tk but lo up rec_ tab_ => ?_
    obtain ⟨_, oc, vs, t, e0, o1, o2, o3⟩ := rec_
    cases e0
    have big : s.heap.objs.size ≤ g'.objs.size := Nat.le_trans lo (Nat.le_of_lt up)
    have ncd : H cd = none := I.hok.fresh lo
    have ntc : ta ≠ cd := fun z => by rw [z, ncd] at eT; cases eT
    have J := LamX.inv_table (q := X.env.qual ++ "<lambda>") (t' := tk) (more := #[rawInt at_.line, rawInt at_.col, .ref cd]) (h' := g'.push (PySem.W.kla_obj "<lambda>" (X.env.qual ++ "<lambda>") pa bo sc (L2.cloFrom X.env.cells sc.names []) ((X.mg "__name__").getD .none) cd ctv)) I eT (fun b o nb e => Heap.get?_push_of_some _ (but b o nb e))
      (Heap.get?_push_of_some _ tab_) lo ⟨oc, vs, t, Heap.get?_push_of_some _ o1, o2, o3⟩
    have ext : LamX.ExtN H (L2.upd (L2.upd H ta (.tbl (row ++ #[rawInt at_.line, rawInt at_.col, .ref cd]))) cd (LamX.CodeO cd (X.env.qual ++ "<lambda>"))) := fun b o e n => by
      have n1 : b ≠ cd := fun z => by rw [z, ncd] at e; cases e
      have n2 : b ≠ ta := fun z => by
        rw [z, eT] at e
        exact n row (Option.some.inj e).symm
      rw [L2.upd_ne n1, L2.upd_ne n2, e]
    have live : ∀ b, H b ≠ none → L2.upd (L2.upd H ta (.tbl (row ++ #[rawInt at_.line, rawInt at_.col, .ref cd]))) cd (LamX.CodeO cd (X.env.qual ++ "<lambda>")) b ≠ none := fun b n => by
      by_cases e1 : b = cd
      · rw [e1, L2.upd_same]; exact fun z => nomatch z
      · rw [L2.upd_ne e1]
        by_cases e2 : b = ta
        · rw [e2, L2.upd_same]; exact fun z => nomatch z
        · rw [L2.upd_ne e2]; exact n
    refine go g'.objs.size cd ((X.mg "__name__").getD .none) ctv _ _ J ⟨ext, live⟩ (fun p hp => ?_) (Heap.get?_push_size _ rfl) ?_ (out _ big) L2.upd_same
    · by_cases hb : p.1 = ta
      · rw [hone p hp hb, hb]
        have el : (row ++ #[rawInt at_.line, rawInt at_.col, .ref cd]).toList = row.toList ++ [rawInt at_.line, rawInt at_.col, .ref cd] := by simp
        refine ⟨_, by rw [L2.upd_ne ntc, L2.upd_same], by rw [el]; exact PySem.TriplesOk_snoc _ _ _ _ tr, fun p' cv hcv => ?_⟩
        rw [el] at hcv
        rcases LamX.among_app _ tr hcv with z | z
        · obtain ⟨c0, f1, f2⟩ := names p' cv z
          exact ⟨c0, f1, ext _ _ f2 codeO_nt⟩
        · exact ⟨cd, z, L2.upd_same⟩
      · obtain ⟨row2, a1, a2, a3⟩ := tabs p hp
        have n1 : p.1 ≠ cd := fun z => by rw [z, ncd] at a1; cases a1
        refine ⟨row2, by rw [L2.upd_ne n1, L2.upd_ne hb, a1], a2, fun p' cv hcv => ?_⟩
        obtain ⟨c0, f1, f2⟩ := a3 p' cv hcv
        exact ⟨c0, f1, ext _ _ f2 codeO_nt⟩
    · have n1 : g'.objs.size ≠ cd := fun z => by omega
      have n2 : g'.objs.size ≠ ta := fun z => by
        have q : ta < s.heap.objs.size := Heap.lt_size gT
        exact absurd big (Nat.not_le.mpr (z ▸ q))
      rw [L2.upd_ne n1, L2.upd_ne n2]
      exact I.hok.fresh big
end
section
variable {X : L2.Cx}
/-- x(lambda: ..), x given by what it does with it -/
theorem lam_call {TT : List (Addr × Str)} {RR : (XK → Hp → L2.VK → Prop) → Hp → L2.VK → Prop} {x a : Str} {g co ta : Addr} {k : Nat} {pg : Arguments} {bg : List Stmt} {sg : Scope} {dV kV doc pm cdv ct oc : Value} {an od : Option Addr} {osl : Array (Option Value)} {Ng : List Str}
    {pa : Arguments} {bo : Expr} {sc : Scope} {t : XK → L2.TE} {p lp pos : Pos} (gl : L2.Gl X x) (hm : X.mg x = some (.ref g)) (hk : PySem.W.keepIn X.K (.ref g) = true)
    (lk : X.K.lookup g = some ⟨oc, od, .func (PySem.W.fnOf x x pg bg sg dV kV doc pm an cdv ct), osl⟩) (hcg : PySem.W.codeIn X.K cdv x = true) (hb : L2.Binds X.K (PySem.W.fnOf x x pg bg sg dV kV doc pm an cdv ct) [a] []) (Sg : L2.FnScope Ng [a] sg) (hN : Ng[0]? = some a) (hv : L2.Vis sg a)
    (gives : LamX.GivesTo X Ng x sg g cdv bg a (X.env.qual ++ "<lambda>") RR) (B : LamX.TabB X.base X.mg co ta) (hco : X.env.code = .ref co) (hmem : (ta, X.env.qual ++ "<lambda>") ∈ TT) (hone : ∀ p ∈ TT, p.1 = ta → p.2 = X.env.qual ++ "<lambda>") (hr : L2.Room (k + 2) X.A) (L : LamX.LamS X.env.scope sc) (hd : defaultsOf pa X.env = ([], []))
    (hbind : ∀ (q : Str) (cl : List (Str × Addr)) (pm cv ctv : Value), bindArgs (PySem.W.kla_fn "<lambda>" q pa bo sc cl pm cv ctv) ⟨[], []⟩ = pure [])
    (body : ∀ (A : Around) (outer : List Env) (s : Shared) (H : Hp) (E : XK) (f cd : Addr), L2.Room k (A.deeper (LamX.lamEnv X sc s.heap.objs.size f cd)) → L2.PE (LamX.lamCx X A outer s H E sc f cd) bo (t E))
    (hx : (x == ("__debug__" : Str)) = false) (ha1 : (a == ("__debug__" : Str)) = false) (ha2 : (a == ("__classdict__" : Str)) = false) :
    L2.PE X (.Call (.Name x p) [.Lambda pa bo sc lp] [] pos) (fun σ H Q => LamX.Tabs TT H ∧ ∀ H1, Grow H H1 → LamX.Tabs TT H1 → RR (fun E H' Q' => t E σ H' Q') H1 Q) := by
  refine ⟨fun pins s σ H Q I hh => ?_⟩
  obtain ⟨tabs, wish⟩ := hh
  refine wpAny_Call_Name_kw (L2.ld_glob I gl hm ?_ hx)
  refine PySem.W.callWith_K (h₀ := X.base) I.ok.mod.kin hk ?_ (by rfl) (by rfl)
  show wpAny _ _ (spliced ((false, eval (.Lambda pa bo sc lp) X.env) :: backTo pos (starEach [] X.env))) _ _ s
  refine Calls.spliced_cons (lam_new I B hco hmem hone tabs hd (L.has I.ok) fun f cd pm2 ctv H1 s' I1 gr T1 at1 nf fr hcd => ?_)
  refine Calls.spliced_nil ⟨I1.kIn, ?_⟩
  have run : codeAny (model X.prog X.w) X.A (.call (.ref g) ⟨[.ref f], []⟩) (L2.CR C8.CX0 X.stack X.prog X.w H1 s' Q C8.E0) s' := by
    refine LamX.run_ofS (N := Ng) (ps := [a]) (us := [.ref f]) (vs := [.ref f]) lk hcg Sg hr I1.env0 (hb s' [.ref f] I1.kIn rfl) (.cons rfl .nil) rfl fun hr' => ?_
    obtain ⟨t', h1, h2⟩ := gives f cd s' H1 Q (fun E H' Q' => t E σ H' Q') (fun W pn xe E p1 p2 tk hW => LamX.pe_act (i := 0) I1 L at1 nf fr (hbind _ _ _ _ _) tk hW hr' (fun A outer s H r2 => body A outer s H E f cd r2) hN hv ha1 ha2) hcd (wish H1 gr T1)
    exact ⟨t', h1.nox, h2⟩
  refine wpAny_call (codeAny_mono run fun r s2 q => ?_)
  match r, q with
  | .ok (.ret u), q => exact I1.after q
  | .ok .next, q => exact False.elim q
  | .ok .brk, q => exact False.elim q
  | .ok .cont, q => exact False.elim q
  | .error e, q => exact (show False from q).elim
end
/-! ### a def that calls what it is handed, by its reading -/
/-- the callback's meaning, where no cell names it -/
def cbG (m : M PV) : M PV := fun h => if h.all (okC false true) = true then m h else .stuck
/-- the end: a value, the callback named nowhere -/
def endT : Res PV → Res PV
  | .ok v h => if okv false true v = true ∧ h.all (okC false true) = true then .ok v h else .stuck
  | .exc _ _ => .stuck
  | .stuck => .stuck
/-- a def of the names' number n that is handed m -/
def runT (n : Nat) (g : M PV → SS) (m : M PV) : M PV := fun h => leave h.length (endT (endS (g (cbG m) (startS n [.cb]) h)))
section
variable {X : L2.Cx} {T : Tx} {E : XK}
theorem code_out {hd ρ : List Addr} {H : Hp} {h : Hv} {c : Addr} {q : Str} (rh : RH (bW X T hd) ρ h H) (e : H c = some (LamX.CodeO c q)) : c ∉ ρ ∧ c ∉ hd := by
  refine ⟨fun z => ?_, fun z => ?_⟩
  · obtain ⟨k, hk⟩ := List.mem_iff_getElem?.mp z
    obtain ⟨c0, _, rc⟩ := rh.tracked hk
    obtain ⟨o, e2, _, n2⟩ := rc.live
    rw [e] at e2
    exact n2 c q (Option.some.inj e2).symm
  · obtain ⟨_, u, e2, n⟩ := rh.hid c z
    rw [e] at e2
    exact n.2 c q (Option.some.inj e2).symm
/-- from the callback's place to where it is unknown -/
theorem tag_no {f c : Addr} {q : Str} {sg : Sg} {σ : L2.St} {hd : List Addr} (hx : T.ex = none) (hc : T.cb = none) : Tag false true (bW X ⟨T.tabs, none, some (f, c, q, sg, σ)⟩ hd) (bW X T hd) := ⟨rfl, rfl, rfl, rfl, rfl, .inr (.inr hx), .inl rfl⟩
theorem tag_cb {f c : Addr} {q : Str} {sg : Sg} {σ : L2.St} {hd : List Addr} (hx : T.ex = none) (hc : T.cb = none) : Tag false false (bW X T hd) (bW X ⟨T.tabs, none, some (f, c, q, sg, σ)⟩ hd) := ⟨rfl, rfl, rfl, rfl, rfl, .inr (.inl hx), .inr (.inl hc)⟩
theorem xc_none {hd ρ : List Addr} {H : Hp} (hx : T.ex = none) (hc : T.cb = none) : XcOk (bW X T hd) ρ H :=
  ⟨fun a dd c fs e => (nomatch (show (none : Option (Addr × Addr × Str × List (Str × PV))) = some (a, dd, c, fs) from hx.symm.trans e)), fun f c q sg σ e => (nomatch (show (none : Option (Addr × Addr × Str × Sg × L2.St)) = some (f, c, q, sg, σ) from hc.symm.trans e))⟩
/-- a run told without the callback holds where it is known -/
theorem cb_in {f c : Addr} {q : Str} {sg : Sg} {σ : L2.St} {hd ρ : List Addr} {H : Hp} {r : Res PV} {Q : L2.VK} {E2 : XK} (hx : T.ex = none) (hc : T.cb = none) (xc : XcOk (bW X ⟨T.tabs, none, some (f, c, q, sg, σ)⟩ hd) ρ H)
    (p : PostV (bW X ⟨T.tabs, none, some (f, c, q, sg, σ)⟩ hd) E2 ρ H r Q) : PostV (bW X T hd) E2 ρ H r Q := by
  have up : ∀ {ρ' : List Addr} {H' : Hp}, Step (bW X T hd) ρ H ρ' H' → Step (bW X ⟨T.tabs, none, some (f, c, q, sg, σ)⟩ hd) ρ H ρ' H' := fun s => Step.tag (B := bW X T hd) (B' := bW X ⟨T.tabs, none, some (f, c, q, sg, σ)⟩ hd) rfl s
  have tg : Tag false false (bW X T hd) (bW X ⟨T.tabs, none, some (f, c, q, sg, σ)⟩ hd) := tag_cb hx hc
  have rhs : ∀ {ρ' : List Addr} {H' : Hp} {h' : Hv}, Step (bW X T hd) ρ H ρ' H' → RH (bW X T hd) ρ' h' H' → RH (bW X ⟨T.tabs, none, some (f, c, q, sg, σ)⟩ hd) ρ' h' H' := fun s r => RH.tag tg r (r.okC (.inl rfl) (.inl rfl)) (xc.step (up s))
  cases r with
  | ok v h => exact fun ρ' H' b s r rv => p ρ' H' b (up s) (rhs s r) (RV.tag tg rv (RV.okv (.inl rfl) (.inl rfl) rv))
  | exc e h =>
    refine fun ρ' H' cls d s r rx => p ρ' H' cls d (up s) (rhs s r) ?_
    obtain ⟨c2, fs, C, dx, xs, h1, h2, h3, h4, h5, h6⟩ := rx
    refine ⟨c2, fs, C, dx, xs, h1, h2, h3, h4, ⟨h5.1, tg.out h5.2⟩, fun g v e => ?_⟩
    obtain ⟨x, g1, g2⟩ := h6 g v e
    exact ⟨x, g1, RV.tag tg g2 (RV.okv (.inl rfl) (.inl rfl) g2)⟩
  | stuck => exact p
/-- a run in the callback's place, from what is wanted without it -/
theorem cb_out {f c : Addr} {q : Str} {sg : Sg} {σ : L2.St} {hd ρ : List Addr} {H : Hp} {r : Res PV} {Q : L2.VK} (hx : T.ex = none) (hc : T.cb = none) (p : PostV (bW X T hd) E ρ H (endT r) Q) : PostV (bW X ⟨T.tabs, none, some (f, c, q, sg, σ)⟩ hd) E0 ρ H r Q := by
  cases r with
  | ok v h =>
    have p : PostV (bW X T hd) E ρ H (if okv false true v = true ∧ h.all (okC false true) = true then .ok v h else .stuck) Q := p
    split at p
    · rename_i ho
      have tg : Tag false true (bW X ⟨T.tabs, none, some (f, c, q, sg, σ)⟩ hd) (bW X T hd) := tag_no hx hc
      exact fun ρ' H' b s r rv => p ρ' H' b (Step.tag (B := bW X ⟨T.tabs, none, some (f, c, q, sg, σ)⟩ hd) (B' := bW X T hd) rfl s) (RH.tag tg r ho.2 (xc_none hx hc)) (RV.tag tg rv ho.1)
    · exact p.elim
  | exc e h => exact False.elim p
  | stuck => exact p
/-- what a context asks of a def that calls what it is handed -/
structure HofFn (D2 : DC) (X : L2.Cx) (T : Tx) (x a : Str) (n : Nat) (g2 : M PV → SS) : Prop where
  ex : ∃ (g : Addr) (pg : Arguments) (bg : List Stmt) (sg : Scope) (dV kV doc pm cdv ct oc : Value) (an od : Option Addr) (osl : Array (Option Value)), X.mg x = some (.ref g) ∧ PySem.W.keepIn X.K (.ref g) = true ∧ X.K.lookup g = some ⟨oc, od, .func (PySem.W.fnOf x x pg bg sg dV kV doc pm an cdv ct), osl⟩ ∧ PySem.W.codeIn X.K cdv x = true ∧
    L2.Binds X.K (PySem.W.fnOf x x pg bg sg dV kV doc pm an cdv ct) [a] [] ∧ L2.FnScope D2.N [a] sg ∧ D2.sc = sg ∧ L2.Vis sg a ∧ ∀ m, denSs n { D2 with cb := some (a, m) } bg = some (g2 m)
  n0 : D2.N[0]? = some a
  dx : (x == ("__debug__" : Str)) = false
  da : (a == ("__debug__" : Str)) = false
  dc : (a == ("__classdict__" : Str)) = false
  sl : slotsOk D2.N
  no : ∀ y, D2.G y ≠ some .hof
  exn : D2.ex = none
  gd : D2.gd = true → X.A.guards = some []
  tab : ∀ cb : Option (Addr × Addr × Str × Sg × L2.St), TabOk X.prog X.w X.K X.mg X.base ⟨T.tabs, none, cb⟩ D2
/-- the lambda's body keeps the promise: x keeps its own -/
theorem hof_at {D D2 : DC} {x a : Str} {n : Nat} {g2 : M PV → SS} {co ta : Addr} (F : HofFn D2 X T x a n g2) (hr : L2.Room D.k X.A) (h2 : 2 ≤ D.k) (hk2 : D2.k < D.k) (hT : D.callT x = runT D2.N.length g2) (hx : T.ex = none) (hc : T.cb = none)
    (B : LamX.TabB X.base X.mg co ta) (hco : X.env.code = .ref co) (hmem : (ta, X.env.qual ++ "<lambda>") ∈ T.tabs) (hone : ∀ p ∈ T.tabs, p.1 = ta → p.2 = X.env.qual ++ "<lambda>") : HofAt D X T E x := by
  intro scope body b p lp pos L hlv gl hbody
  obtain ⟨g, pg, bg, sg, dV, kV, doc, pm, cdv, ct, oc, an, od, osl, hm, hk, lk, hcg, hb, FS, hsc, hv, hden⟩ := F.ex
  have hkk : D.k - 2 + 2 = D.k := by omega
  refine PE.imp (lam_call (TT := T.tabs) (RR := fun tl H Q => ∃ (hd ρ : List Addr) (sg : Sg) (σ : L2.St) (h : Hv), tl = (fun E2 H' Q' => tEX X T E2 b σ H' Q') ∧ RS (bW X T hd) ρ H sg σ ∧ RH (bW X T hd) ρ h H ∧ PostV (bW X T hd) E ρ H (D.callT x (b sg) h) Q)
    (t := fun E2 => tEX X T E2 b) (k := D.k - 2) gl hm hk lk hcg hb FS F.n0 hv ?_ B hco hmem hone (by rw [hkk]; exact hr) L rfl (fun _ _ _ _ _ => rfl) (fun A outer s H E2 f cd hr2 => hbody A outer s H E2 f cd hr2) F.dx F.da F.dc) fun σ H Q ⟨hd, ρ, sg, h, rs, rh, q⟩ => ?_
  · intro f cd s H Q tl act hcd ⟨hd, ρ, sgv, σ, h, etl, rs, rh, q⟩
    subst etl
    have co2 := code_out rh hcd
    let T2 : Tx := ⟨T.tabs, none, some (f, cd, X.env.qual ++ "<lambda>", sgv, σ)⟩
    let Z : L2.Cx := (L2.cxOf C8.CX0 X.prog X.w X.K X.mg X.base D2.N x sg g cdv X.A X.stack s H C8.E0).nox
    have hokv : ∀ (i : Nat) (v : PV), sgv[i]? = some (some v) → okv false true v = true := fun i v e => by
      obtain ⟨y, _, rv⟩ := rs.get i v e
      exact RV.okv (B := bW X T hd) (.inl rfl) (.inr hc) rv
    have tg : Tag false false (bW X T hd) (bW X T2 hd) := tag_cb hx hc
    have xc2 : XcOk (bW X T2 hd) ρ H := ⟨fun _ _ _ _ e => (nomatch e), fun f' c' q' sg' σ' e => by
      have e : some (f, cd, X.env.qual ++ "<lambda>", sgv, σ) = some (f', c', q', sg', σ') := e
      cases e
      exact ⟨⟨co2.1, co2.2⟩, hcd, RS.tag tg rs fun i v e => by
        obtain ⟨y, _, rv⟩ := rs.get i v e
        exact RV.okv (.inl rfl) (.inl rfl) rv⟩⟩
    have CB : CbAt Z T2 a (cbG (b sgv)) := by
      intro pn xe E2 tk p1 p2 i hi
      have h0 : i = 0 := by
        have q0 : D2.N[0]? = some a := F.n0
        have qi : D2.N[i]? = some a := hi
        exact (List.getElem?_inj (List.getElem?_eq_some_iff.mp qi).1 FS.nd).mp (qi.trans q0.symm)
      subst h0
      refine PE.imp (act (fun cls d _ H => E2 cls d H) pn xe E2 p1 p2 tk (fun _ _ _ _ z => z)) fun σZ HZ QZ ⟨hd1, ρ1, sg1, h1, rs1, rh1, pp⟩ => ?_
      have pp : PostV (bW Z T2 hd1) E2 ρ1 HZ (((eVar 0 sg1).bnd fun v => match v with
        | .cb => cbG (b sgv)
        | _ => M.stk) h1) QZ := pp
      cases e1 : sg1[0]? with
      | none =>
        rw [bnd_stk (eVar_n1 e1)] at pp
        exact pp.elim
      | some o =>
        cases o with
        | none =>
          rw [bnd_stk (eVar_n2 e1)] at pp
          exact pp.elim
        | some v =>
          rw [bnd_ok (eVar_at e1)] at pp
          obtain ⟨y, g1, gr⟩ := rs1.get 0 v e1
          cases v with
          | cb =>
            cases gr with
            | @cb f3 c3 q3 sg3 σ3 he =>
              have he : some (f, cd, X.env.qual ++ "<lambda>", sgv, σ) = some (f3, c3, q3, sg3, σ3) := he
              cases he
              obtain ⟨_, hcZ, rsZ⟩ := rh1.xc.cb f cd _ sgv σ rfl
              have pp : PostV (bW Z T2 hd1) E2 ρ1 HZ (if h1.all (okC false true) = true then b sgv h1 else .stuck) QZ := pp
              split at pp
              · rename_i hall
                have tn : Tag false true (bW X T2 hd1) (bW X T hd1) := tag_no hx hc
                exact ⟨g1, hcZ, hd1, ρ1, sgv, h1, RS.tag tn rsZ hokv, RH.tag tn rh1 hall (xc_none hx hc), cb_in hx hc rh1.xc pp⟩
              · exact pp.elim
          | _ => exact pp.elim
    have FZ : Fits { D2 with cb := some (a, cbG (b sgv)) } Z T2 E0 := {
      N := rfl
      nd := FS.nd
      sc := hsc.symm
      kind := by show D2.sc.kind = .function; rw [hsc]; exact FS.kind
      calm := fun _ => ⟨rfl, by
        refine L2.Room.mono (k := D.k - 1) ?_ (by show D2.k ≤ D.k - 1; omega)
        have e : D.k - 1 + 1 = D.k := by omega
        have hr2 : L2.Room (D.k - 1 + 1) X.A := by rw [e]; exact hr
        exact hr2.deeper _⟩
      un := by
        have q := hr.un
        show (X.A.deeper (envOfC x sg s.heap.objs.size g cdv)).units + 200 < cLine
        have e : D.k - 1 + 1 = D.k := by omega
        have hr2 : L2.Room (D.k - 1 + 1) X.A := by rw [e]; exact hr
        have q2 := (hr2.deeper (envOfC x sg s.heap.objs.size g cdv)).un
        omega
      gd := fun z => F.gd z
      own := fun _ _ => rfl
      takes := LamX.takes0
      tab := by
        have t := F.tab (some (f, cd, X.env.qual ++ "<lambda>", sgv, σ))
        exact ⟨t.kls, t.sub, t.cat, t.blt, t.cst, t.fns, t.excs⟩
      hof := fun y h => absurd h (F.no y)
      stk := fun _ => ⟨rfl, rfl, F.no⟩
      xno := fun _ => rfl
      cb := fun y m h => by
        have h : some (a, cbG (b sgv)) = some (y, m) := h
        cases h
        exact CB
      sui := fun h => absurd F.exn h }
    refine ⟨_, (tellsS n T2 _ Z E0 FZ F.sl PassesOwn.never).2 bg _ (hden _), hd, ρ, startS D2.N.length [.cb], h, ?_, RH.tag tg rh (rh.okC (.inl rfl) (.inl rfl)) xc2, ?_⟩
    · exact start_rs (.cons (.cb rfl) .nil)
    · rw [hT] at q
      exact end_s (cb_out hx hc (leave_ok rh.len rh.xc q))
  · refine ⟨rh.tabs, fun H1 gr T1 => ?_⟩
    have st : Step (bW X T hd) ρ H ρ H1 := ⟨List.prefix_refl _, fun y u _ nt e => gr.ext y u e nt, fun _ z => .inl z, gr.live, fun _ => T1⟩
    refine ⟨hd, ρ, sg, σ, h, rfl, rs.step st, rh.kept st fun y hy => ?_, PostR.step q st⟩
    obtain ⟨k, hk⟩ := List.mem_iff_getElem?.mp hy
    obtain ⟨c0, _, rc⟩ := rh.tracked hk
    obtain ⟨o, e2, n1, _⟩ := rc.live
    rw [e2]
    exact gr.ext y o e2 n1
end
end HS
end
-- text EvLaw
section
set_option Elab.async false
set_option linter.all false
set_option maxRecDepth 100000

/-! law, called by the claim: its script, its tables of code objects. -/
namespace HS
open PySem PySem.Spec PyProof.Rows
/-- what may change of the ground: tables alone -/
structure Ground0 (h : Heap) (H : Hp) (cs : List (Addr × Addr)) (a : Addr) (vs : List Value) (ns : List Int) : Prop where
  tab : ∀ p ∈ cs, H p.2 = some (.tbl #[])
  or : ∀ b u, H b = some u → (u = .tbl #[] ∧ ∃ p ∈ cs, p.2 = b) ∨ (b = a ∧ u = .frz { cls := .type "list", data := .seq vs.toArray } (.lst (ns.map L2.V.int)))
open Classical in
/-- nothing but the tables and the script is looked at -/
noncomputable def H0 (K : PySem.W.Frag) (cs : List (Addr × Addr)) (a : Addr) (vs : List Value) (ns : List Int) : Hp := fun b =>
  if ∃ p ∈ cs, p.2 = b then some (.tbl #[]) else if b = a ∧ K.lookup a = none then some (.frz { cls := .type "list", data := .seq vs.toArray } (.lst (ns.map L2.V.int))) else none
theorem H0_or {K : PySem.W.Frag} {cs : List (Addr × Addr)} {a : Addr} {vs : List Value} {ns : List Int} {b : Addr} {u : HO} (e : H0 K cs a vs ns b = some u) :
    (u = .tbl #[] ∧ ∃ p ∈ cs, p.2 = b) ∨ (b = a ∧ K.lookup a = none ∧ u = .frz { cls := .type "list", data := .seq vs.toArray } (.lst (ns.map L2.V.int))) := by
  unfold H0 at e
  split at e
  · rename_i h
    cases e
    exact .inl ⟨rfl, h⟩
  · split at e
    · rename_i h
      cases e
      exact .inr ⟨h.1, h.2, rfl⟩
    · cases e
section
variable {P : Program} {w : World} {K : PySem.W.Frag} {mg mb : Str → Option Value} {k : Nat} {fa a : Addr} {cs : List (Addr × Addr)} {fd : FuncData} {x : Str} {sp : L2.Sp} {s₁ : Shared} {vs : List Value} {ns : List Int} {b : Bool}
theorem law_go (KX : K.In s₁.heap) (hns : s₁.heap.Ns mainGlobals mg) (hb : s₁.heap.Ns builtinsNs mb) (hbb : ∀ x : Str, x ≠ "__name__" → mb x = bootBuiltins x) (hlim : s₁.heap.NoLimit) (hg : s₁.gens = #[])
    (hT : ∀ p ∈ cs, s₁.heap.get? p.2 = some { cls := .none, data := .fields #[] }) (nT : ∀ p ∈ cs, K.lookup p.2 = none) (C : ∀ p ∈ cs, PySem.W.CodeHd s₁.heap p.1 p.2)
    (hbm : ∃ (bm : Addr) (ob : Obj), mg "__builtins__" = some (.ref bm) ∧ bm ≠ builtinsNs ∧ s₁.heap.get? bm = some ob ∧ ob.cls = .type "module" ∧ ob.dict = some builtinsNs ∧ ob.data = .plain)
    (ha : s₁.heap.get? a = some { cls := .type "list", data := .seq vs.toArray }) (hi : IntsAre vs ns) (hl : ns.length ≤ sizeLine) (hr : L2.Room k callerA)
    (F : ∀ base : Heap, K.In base → base.Ns mainGlobals mg → (∀ p ∈ cs, LamX.TabB base mg p.1 p.2) → FnG b P w K mg base k fa fd [x] sp) (hbind : ∀ (s : Shared) (u : Value), BindsTo s fd ⟨[u], []⟩ [(x, u)])
    (hsp : ∀ H : Hp, (∀ p ∈ cs, H p.2 = some (.tbl #[])) → L2.SqL K H a (ns.map L2.V.int) → sp [.ref a] H (fun v _ => v = .bl true) E0) :
    codeAny (model P w) callerA (.call (.ref fa) ⟨[.ref a], []⟩) (fun r s' => r = .ok (.ret (.bool true)) ∧ OldK s₁.heap s'.heap ∧ s'.os = s₁.os ∧ AllBare s'.gens) s₁ := by
  have rv : L2.Vals (ns.map L2.V.int) vs := L2.vals_of_ints hi
  have hlen : vs.length = ns.length := by
    have q := rv.length
    rw [List.length_map] at q
    exact q.symm
  -- the ground by what stands at an address
  have tabs : ∀ p ∈ cs, H0 K cs a vs ns p.2 = some (.tbl #[]) := fun p hp => by
    unfold H0
    exact if_pos ⟨p, hp, rfl⟩
  have free : ∀ {c : Addr} {o : Obj}, s₁.heap.get? c = some o → (∀ z n, o.data ≠ .seq z n) → (∀ z, o.data ≠ .fields z ∨ z.size ≠ 0) → H0 K cs a vs ns c = none := fun {c o} e h1 h2 => by
    cases q : H0 K cs a vs ns c with
    | none => rfl
    | some u =>
      rcases H0_or q with ⟨_, p, hp, rfl⟩ | ⟨rfl, _, _⟩
      · rw [hT p hp] at e
        cases e
        rcases h2 #[] with z | z
        · exact (z rfl).elim
        · exact (z rfl).elim
      · rw [ha] at e
        cases e
        exact (h1 _ _ rfl).elim
  have dict : ∀ {c : Addr} {m : Str → Option Value}, s₁.heap.Ns c m → (L2.hidT s₁.heap (H0 K cs a vs ns)).Ns c m := fun {c m} ⟨o, es, ep, e, d, r⟩ =>
    ⟨o, es, ep, L2.hidT_get e (free e (fun z n q => by rw [d] at q; cases q) fun z => .inl fun q => by rw [d] at q; cases q), d, r⟩
  have kin : K.In (L2.hidT s₁.heap (H0 K cs a vs ns)) := fun c o e => L2.hidT_get (KX c o e) (by
    cases q : H0 K cs a vs ns c with
    | none => rfl
    | some u =>
      rcases H0_or q with ⟨_, p, hp, rfl⟩ | ⟨rfl, n, _⟩
      · rw [nT p hp] at e
        cases e
      · rw [n] at e
        cases e)
  have md : L2.Mod K mg (L2.hidT s₁.heap (H0 K cs a vs ns)) := ⟨kin, dict hns, ⟨mb, dict hb, hbb⟩, let ⟨mc, h1, h2⟩ := hlim; ⟨mc, dict h1, h2⟩⟩
  have tb : ∀ p ∈ cs, LamX.TabB (L2.hidT s₁.heap (H0 K cs a vs ns)) mg p.1 p.2 := fun p hp => by
    refine ⟨?_, ?_, fun z => ?_⟩
    · obtain ⟨o, us, file, tf, flags, tg, inF, text, tt, e1, r1, r2, r3, rest⟩ := C p hp
      refine ⟨o, us, file, tf, flags, tg, inF, text, tt, L2.hidT_get e1 (free e1 (fun z n q => by rw [r2] at q; cases q) fun z => ?_), r1, r2, r3, rest⟩
      by_cases q : o.data = .fields z
      · refine .inr fun h0 => ?_
        rw [r2] at q
        cases q
        have hz := Array.eq_empty_of_size_eq_zero h0
        rw [hz] at r3
        simp at r3
      · exact .inl q
    · obtain ⟨bm, ob, b1, b2, b3, b4, b5, b6⟩ := hbm
      refine ⟨bm, ob, b1, b2, fun q => ?_, fun q => ?_, L2.hidT_get b3 (free b3 (fun z n q => by rw [b6] at q; cases q) fun z => .inl fun q => by rw [b6] at q; cases q), b4, b5, b6⟩
      · obtain ⟨o, es, ep, e, d, _⟩ := hns
        rw [q, e] at b3
        cases b3
        rw [d] at b6
        cases b6
      · rw [q, hT p hp] at b3
        cases b3
        cases b6
    · obtain ⟨o, es, ep, e, d, _⟩ := hns
      rw [z, hT p hp] at e
      cases e
      cases d
  have ok : L2.HOk P w (H0 K cs a vs ns) s₁.heap := fun c u e => by
    rcases H0_or e with ⟨rfl, p, hp, rfl⟩ | ⟨rfl, _, rfl⟩
    · exact hT p hp
    · exact ⟨ha, by rw [List.length_map]; exact hl, vs, _, rv, ha⟩
  have sq : L2.SqL K (H0 K cs a vs ns) a (ns.map L2.V.int) := by
    cases q : K.lookup a with
    | some o =>
      have e := KX a o q
      rw [ha] at e
      cases e
      exact .inr ⟨_, vs.toArray, _, q, rfl, rfl, rfl, by rw [List.size_toArray, hlen]; exact hl, by simpa using rv⟩
    | none =>
      refine .inl (.inr ⟨{ cls := .type "list", data := .seq vs.toArray }, ?_⟩)
      unfold H0
      rw [if_neg, if_pos ⟨rfl, q⟩]
      rintro ⟨p, hp, e⟩
      have z := hT p hp
      rw [e, ha] at z
      have z' : Data.seq vs.toArray _ = Data.fields #[] := congrArg Obj.data (Option.some.inj z)
      cases z'
  have e0 : L2.Env0 P w K mg (L2.hidT s₁.heap (H0 K cs a vs ns)) callerA [] s₁ (H0 K cs a vs ns) :=
    ⟨rfl, md, fun c o e => L2.of_hidT e, Nat.le_of_eq (L2.hidT_size _ _), trivial, fun c hc => absurd (show c ∈ ([] : List Addr) from hc) (by simp), ok, .of_eq hg⟩
  refine codeAny_mono ((F _ kin (dict hns) tb).run callerA [] s₁ _ ⟨[.ref a], []⟩ [.ref a] [.ref a] _ _ hr (fun _ => rfl) e0 (hbind s₁ (.ref a)) (.cons rfl .nil) (hsp _ tabs sq)) fun r s' q => ?_
  cases r with
  | error e =>
    obtain ⟨_, _, _, _, _, _, _, _, _, _, _, _, z⟩ := q
    exact z.elim
  | ok fl =>
    cases fl with
    | ret u =>
      obtain ⟨v, H', os, bare, un, ok', rv', q⟩ := q
      have q : v = .bl true := q
      subst q
      obtain rfl : u = Value.bool true := rv'
      have grow : ∀ p ∈ cs, ∃ more : Array Value, s'.heap.get? p.2 = some { cls := .none, data := .fields more } := fun p hp => by
        obtain ⟨more, z⟩ := un.tbls p.2 #[] (tabs p hp)
        exact ⟨_, ok' p.2 _ z⟩
      have same : ∀ c o, (¬ ∃ p ∈ cs, p.2 = c) → s₁.heap.get? c = some o → s'.heap.get? c = some o := fun c o n e => by
        cases q : H0 K cs a vs ns c with
        | none => exact un.keep c o e q (by intro z; exact absurd (show c ∈ ([] : List Addr) from z) (by simp)) (by simp)
        | some u =>
          rcases H0_or q with ⟨_, z⟩ | ⟨rfl, _, rfl⟩
          · exact (n z).elim
          · obtain ⟨e2, _⟩ := ok' _ _ (un.frzs _ _ _ q)
            rw [ha] at e
            cases e
            exact e2
      refine ⟨rfl, ⟨fun c o e => ?_, fun c o e => ?_⟩, os, bare⟩
      · by_cases h : ∃ p ∈ cs, p.2 = c
        · obtain ⟨p, hp, rfl⟩ := h
          obtain ⟨more, hm⟩ := grow p hp
          have e' := e
          rw [hT p hp] at e'
          cases e'
          exact .inr (.inl ⟨((C p hp).tab (hT p hp)).isCodeTable, rfl, #[], more, rfl, by rw [Array.empty_append]; exact hm⟩)
        · exact .inl (same c o h e)
      · by_cases h : ∃ p ∈ cs, p.2 = c
        · obtain ⟨p, hp, rfl⟩ := h
          obtain ⟨more, hm⟩ := grow p hp
          exact ⟨_, hm⟩
        · exact ⟨o, same c o h e⟩
    | _ => exact (show False from q).elim
end
/-- what is known of law's promise at the head's heap -/
def LawG (l : PySem.W.OpenLaw) (w : World) (K : PySem.W.Frag) (k n : Nat) (x : Str) (mg : Str → Option Value) (fa : Addr) (h : Heap) : Prop :=
  ∃ (b : Bool) (fd : FuncData) (cs : List (Addr × Addr)) (sp : L2.Sp), (∀ p ∈ cs, h.get? p.2 = some { cls := .none, data := .fields #[] }) ∧ (∀ p ∈ cs, K.lookup p.2 = none) ∧ (∀ p ∈ cs, PySem.W.CodeHd h p.1 p.2) ∧ (∀ (s : Shared) (u : Value), BindsTo s fd ⟨[u], []⟩ [(x, u)]) ∧
    (∀ (H : Hp) (a : Addr) (ns : List Int), ns.length ≤ n → (∀ z ∈ ns, Builtin.Int.intBits z ≤ 1048576) → (∀ p ∈ cs, H p.2 = some (.tbl #[])) → L2.SqL K H a (ns.map L2.V.int) → sp [.ref a] H (fun v _ => v = .bl true) E0) ∧
    ∀ base : Heap, K.In base → base.Ns mainGlobals mg → (∀ p ∈ cs, LamX.TabB base mg p.1 p.2) → FnG b l.prog w K mg base k fa fd [x] sp
theorem walk_law {l : PySem.W.OpenLaw} {n k : Nat} {q : Program} {loose : List Str} {XP : (Str → Option Value) → Heap → Prop} {YP : World → Heap → Prop} {d : DefRec} {K : Params → PySem.W.Frag} {x : Str}
    (hn : l.most = some n) (hn2 : n ≤ sizeLine) (hdf : d.params.defaults = []) (hr : L2.Room k callerA) (hY : ∀ (w : World) (h : Heap), YP w h → (K w.params).In h)
    (F : ∀ (w : World) (mg : Str → Option Value) (fa : Addr) (h : Heap), YP w h → (K w.params).In h → h.Ns mainGlobals mg → mg d.name = some (.ref fa) → LawG l w (K w.params) k n x mg fa h) :
    PySem.W.WalkO q loose XP YP l.row.toRowW d [] (fun f vs => PySem.call f vs) := by
  refine Att.attach_callB hn hdf fun w s₀ s₁ mg mb fa o pm cd doc a vs ns G Y ho hd hcd hmg hobj hints hlen hbits hg => ?_
  obtain ⟨b, fd, cs, sp, h1, h2, h3, h4, h5, h6⟩ := F w mg fa _ Y (hY w _ Y) G.T.g hmg
  exact law_go (hY w _ Y) G.T.g G.T.b G.T.builtins G.T.nolimit hg h1 h2 h3 G.T.bmain hobj hints (Nat.le_trans hlen hn2) hr h6 h4 fun H hH hS => h5 H a ns hlen hbits hH hS
end HS
end
-- text EvHead
section
set_option Elab.async false
set_option linter.all false
set_option maxRecDepth 100000

/-! A whole text: its defs, its classes, its law, from what the head tells. -/
namespace HS
open PySem PySem.Spec PyProof.Rows
/-! ### facts of classes, by looking -/
def exB (K : PySem.W.Frag) (C fI : Addr) (f : Str) : Bool := (match K.lookup C with
  | some ⟨.type "type", _, .cls ⟨_, _, .ref C' :: bm, _, _, true, _, _, _, _, false⟩, sl⟩ => (match sl.toList with
    | [_, _, _, _, some (.builtin n), _] => C' == C && n == "Exception.__new__" && exRow bm
    | _ => false)
  | _ => false) && decide (PySem.W.findIn K (.ref C) "__setattr__" = some (some (.builtin "object.__setattr__"))) && decide (PySem.W.subIn K (.ref C) (.type "BaseException") = some true) && decide (PySem.W.typeIn K (.ref C) = some (.type "type")) && PySem.W.keepIn K (.ref C) &&
  decide (PySem.W.findIn K (.ref C) "__init__" = some (some (.ref fI))) && decide (PySem.W.typeIn K (.ref fI) = some (.type "function")) && decide (PySem.W.findIn K (.ref C) f = some none)
theorem exB_ok {K : PySem.W.Frag} {C fI : Addr} {f : Str} (h : exB K C fI f = true) : ExK K C fI ∧ PySem.W.findIn K (.ref C) f = some none := by
  unfold exB at h
  simp only [Bool.and_eq_true, decide_eq_true_eq] at h
  obtain ⟨⟨⟨⟨⟨⟨⟨h1, h2⟩, h3⟩, h4⟩, h5⟩, h6⟩, h7⟩, h8⟩ := h
  refine ⟨⟨?_, h2, h3, h4, h5, h6, h7⟩, h8⟩
  split at h1
  · rename_i dd nm bs C' bm N q sn sub ab col sl ho
    split at h1
    · rename_i k0 k1 k2 k3 n k5 hs
      simp only [Bool.and_eq_true, beq_iff_eq] at h1
      obtain ⟨⟨rfl, rfl⟩, h9⟩ := h1
      have e : sl = #[k0, k1, k2, k3, some (.builtin "Exception.__new__"), k5] := by
        obtain ⟨l⟩ := sl
        exact congrArg Array.mk hs
      subst e
      exact ⟨nm, q, N, bs, bm, sn, sub, ab, col, dd, k0, k1, k2, k3, k5, ho, h9⟩
    · cases h1
  · cases h1
def clB (K : PySem.W.Frag) (C : Addr) : Bool := decide (PySem.W.findIn K (.ref C) "__getattribute__" = some (some (.builtin "BaseException.__getattribute__"))) && decide (PySem.W.findIn K (.ref C) "__getattr__" = some none) && decide (PySem.W.subIn K (.ref C) (.type "BaseException") = some true) && PySem.W.hasDictIn K C &&
  decide (PySem.W.findIn K (.ref C) "__class__" = some (some (.builtin "object.__class__"))) && decide (PySem.W.specialIn K (.builtin "object.__class__") "__get__" = some (some (.builtin "getset_descriptor.__get__"))) && decide (PySem.W.takesIn K (.builtin "object.__class__") = some true) && decide (PySem.W.mroIn K C (.type "object") = some true)
theorem clB_ok {K : PySem.W.Frag} {C : Addr} (h : clB K C = true) : ClsOk K C := by
  unfold clB at h
  simp only [Bool.and_eq_true, decide_eq_true_eq] at h
  obtain ⟨⟨⟨⟨⟨⟨⟨h1, h2⟩, h3⟩, h4⟩, h5⟩, h6⟩, h7⟩, h8⟩ := h
  exact ⟨h1, h2, h3, h4, h5, h6, h7, h8⟩
/-! ### a text's data -/
/-- an own class with an __init__ that keeps its one argument: its name, the field, the parameters' names, the __init__'s statement -/
structure Xd where
  name : Str
  f : Str
  s0 : Str
  s1 : Str
  st : Stmt
/-- one def: what is written, the names' slots, which displays become cells, what it may ask, its meaning -/
structure Df where
  name : Str
  st : Stmt
  ps : List Str
  N : List Str
  mu : List Pos
  k : Nat
  gd : Bool
  keep : Bool
  tr : Bool
  lam : Bool
  n : Nat
  m : SS
structure Pg where
  tab : List (Str × GK)
  call : Str → List PV → M PV
  callT : Str → M PV → M PV
  g2 : Str → M PV → SS
  lv : Str → Nat
  gn : Str → Bool
  kws : List (Str × List Str)
  xs : List Xd
  subs : List (Str × Str × Bool)
  cts : List Str
def Pg.dcOf (p : Pg) (N : List Str) (sc : Scope) (mu : List Pos) (k : Nat) (gd tr lam : Bool) : DC where
  N := N
  sc := sc
  G := fun x => if lam then p.tab.lookup x else noHof (p.tab.lookup x)
  call := p.call
  callT := p.callT
  calm := true
  own := fun _ => true
  mu := fun q => mu.contains q
  gd := gd
  gn := p.gn
  kws := fun f ks => p.kws.contains (f, ks)
  lv := p.lv
  k := k
  ex := none
  sub := fun a b => (p.subs.find? fun q => decide (q.1 = a) && decide (q.2.1 = b)).map (·.2.2)
  kl := fun c => p.xs.any fun x => decide (x.name = c)
  fl := fun f => p.xs.any fun x => decide (x.f = f)
  ct := fun c => p.cts.any fun x => decide (x = c)
  tr := tr
  cb := none
def Pg.dc (p : Pg) (d : Df) : DC := p.dcOf d.N (L2.defScope d.st) d.mu d.k d.gd d.tr d.lam
abbrev Df.fnOf (d : Df) (kV doc pm : Value) (an : Option Addr) (cdv ct : Value) : FuncData := PySem.W.fnOf d.name d.name (L2.defArgs d.st) (L2.defBody d.st) (L2.defScope d.st) .none kV doc pm an cdv ct
/-- what is checked of one def -/
structure DefOk (p : Pg) (d : Df) : Prop where
  g : p.tab.lookup d.name = some (.fn d.ps)
  lv : p.lv d.name = d.k
  call : p.call d.name = runD d.keep d.N.length d.m
  gn : d.gd = true → p.gn d.name = true
  fs : L2.FnScope d.N d.ps (L2.defScope d.st)
  sl : slotsOk d.N
  tl : d.tr = true → d.lam = false
  den : denSs d.n (p.dc d) (L2.defBody d.st) = some d.m
  bind : ∀ (kV doc pm : Value) (an : Option Addr) (cdv ct : Value) (us : List Value), us.length = d.ps.length → bindArgs (d.fnOf kV doc pm an cdv ct) ⟨us, []⟩ = pure (d.ps.zip us)
  kw : ∀ ks ix, p.kws.contains (d.name, ks) = true → kwOrder d.ps ks = some ix → ∀ (kV doc pm : Value) (an : Option Addr) (cdv ct : Value) (ws : List Value), ws.length = ks.length → bindArgs (d.fnOf kV doc pm an cdv ct) ⟨[], ks.zip ws⟩ = pure (d.ps.zip (pick ix ws))
  db : (d.name == ("__debug__" : Str)) = false
/-- .. of one class -/
structure XdOk (p : Pg) (x : Xd) : Prop where
  g : p.tab.lookup x.name = some (.exc [x.f])
  fs : L2.FnScope [x.s0, x.s1] [x.s0, x.s1] (L2.defScope x.st)
  sl : slotsOk [x.s0, x.s1]
  body : ∃ p1 p2 p3 p4 : Pos, L2.defBody x.st = [.Assign [.Attribute (.Name x.s0 p1) x.f p2] (.Name x.s1 p3) p4]
  bind : ∀ (kV doc pm : Value) (an : Option Addr) (cdv ct : Value) (us : List Value), us.length = 2 → bindArgs (PySem.W.fnOf "__init__" (x.name ++ ".__init__") (L2.defArgs x.st) (L2.defBody x.st) (L2.defScope x.st) .none kV doc pm an cdv ct) ⟨us, []⟩ = pure ([x.s0, x.s1].zip us)
  db : (x.name == ("__debug__" : Str)) = false
def defD (d : Df) : He.DefD := ⟨(d.name, none), d.name, d.name, L2.defArgs d.st, L2.defBody d.st, L2.defScope d.st, [], []⟩
def xdD (x : Xd) : He.DefD := ⟨(x.name, some "__init__"), "__init__", x.name ++ ".__init__", L2.defArgs x.st, L2.defBody x.st, L2.defScope x.st, [], []⟩
/-- what the head is asked for -/
def Pg.fa (p : Pg) (defs : List Df) (hofs : List Df) : List He.Fa := (defs.map fun d => .glo d.name) ++ (hofs.map fun d => .glo d.name) ++ (p.xs.map fun x => .glo x.name) ++ (p.cts.map .glo) ++ (p.subs.map fun q => .glo q.2.1) ++ (blts.filterMap fun x => if (p.tab.lookup x).isNone then some (.free x) else none) ++
  p.tab.filterMap fun q => match q.2 with
    | .cst (.str z) => some (.str q.1 z)
    | .cst (.int i) => some (.int q.1 i)
    | _ => none
def Pg.fn (p : Pg) (defs hofs : List Df) : List He.DefD := defs.map defD ++ hofs.map defD ++ p.xs.map xdD
def Pg.ex (p : Pg) (K : PySem.W.Frag) : Bool := (p.xs.all fun x => exB K (He.ga K x.name) (He.ma K (He.ga K x.name) "__init__") x.f && clB K (He.ga K x.name) && p.xs.all fun y => decide (PySem.W.findIn K (.ref (He.ga K x.name)) y.f = some none)) &&
  p.subs.all fun q => decide (PySem.W.kitOne K (.ref (He.ga K q.1)) (.ref (He.ga K q.2.1)) = some q.2.2) && decide (PySem.W.exmOne K (.ref (He.ga K q.1)) (.ref (He.ga K q.2.1)) = some q.2.2)
/-- .. of a def that is handed a lambda -/
structure HfOk (p : Pg) (d : Df) : Prop where
  ex : ∃ a : Str, d.ps = [a] ∧ d.N[0]? = some a ∧ L2.Vis (L2.defScope d.st) a ∧ (a == ("__debug__" : Str)) = false ∧ (a == ("__classdict__" : Str)) = false ∧ ∀ m, denSs d.n { p.dc d with cb := some (a, m) } (L2.defBody d.st) = some (p.g2 d.name m)
  callT : p.callT d.name = runT d.N.length (p.g2 d.name)
  fs : L2.FnScope d.N d.ps (L2.defScope d.st)
  sl : slotsOk d.N
  nl : d.lam = false
  bind : ∀ (kV doc pm : Value) (an : Option Addr) (cdv ct : Value) (us : List Value), us.length = d.ps.length → bindArgs (d.fnOf kV doc pm an cdv ct) ⟨us, []⟩ = pure (d.ps.zip us)
  db : (d.name == ("__debug__" : Str)) = false
/-- what is checked of the tables -/
structure PgOk (p : Pg) (defs hofs : List Df) : Prop where
  fns : ∀ q ∈ p.tab, ∀ ps, q.2 = .fn ps → ∃ d ∈ defs, d.name = q.1 ∧ d.ps = ps
  exs : ∀ q ∈ p.tab, ∀ ps, q.2 = .exc ps → ∃ x ∈ p.xs, x.name = q.1 ∧ ps = [x.f]
  cst : ∀ q ∈ p.tab, ∀ v, q.2 = .cst v → ((∃ z, v = .str z) ∨ ∃ i, v = .int i) ∧ (q.1 == ("__debug__" : Str)) = false
  hof : ∀ q ∈ p.tab, q.2 = .hof → ∃ d ∈ hofs, d.name = q.1
  d : ∀ d ∈ defs, DefOk p d
  h : ∀ d ∈ hofs, HfOk p d
  /-- the defs with lambdas stand above all -/
  top : ∀ d ∈ defs, d.lam = true → d.gd = true ∧ 2 ≤ d.k ∧ (∀ e ∈ defs, e.k ≤ d.k) ∧ (∀ e ∈ hofs, e.k < d.k) ∧ ∀ e ∈ defs, e.lam = true → e.name = d.name
  x : ∀ x ∈ p.xs, XdOk p x
  sdb : ∀ q ∈ p.subs, (q.2.1 == ("__debug__" : Str)) = false
  cdb : ∀ c ∈ p.cts, (c == ("__debug__" : Str)) = false
theorem noHof_hof {o : Option GK} : noHof o ≠ some .hof := noHof_ne o
section
variable {P : Program} {w : World} {K : PySem.W.Frag} {mg : Str → Option Value} {h base : Heap} {p : Pg} {defs hofs : List Df}
/-- what the head tells -/
structure Told (p : Pg) (defs hofs : List Df) (K : PySem.W.Frag) : Prop where
  d : He.SaysD (p.fa defs hofs) (p.fn defs hofs) K
  ex : p.ex K = true
theorem Told.fa (t : Told p defs hofs K) {f : He.Fa} (h : f ∈ p.fa defs hofs) : f.ok K = true := t.d.facts h
theorem dc_G {d : Df} {x : Str} {g : GK} (hg : g ≠ .no) (h : (p.dc d).G x = some g) : p.tab.lookup x = some g := by
  have h : (if d.lam then p.tab.lookup x else noHof (p.tab.lookup x)) = some g := h
  split at h
  · exact h
  · cases q : p.tab.lookup x with
    | none => rw [q] at h; cases h
    | some g2 =>
      rw [q] at h
      cases g2 with
      | hof => cases h; exact absurd rfl hg
      | _ => exact h
theorem dc_none {d : Df} {x : Str} (h : (p.dc d).G x = none) : p.tab.lookup x = none := by
  have h : (if d.lam then p.tab.lookup x else noHof (p.tab.lookup x)) = none := h
  split at h
  · exact h
  · exact noHof_none h
theorem lk_mem {x : Str} {g : GK} : ∀ {l : List (Str × GK)}, l.lookup x = some g → (x, g) ∈ l
  | [], h => by cases h
  | (y, g2) :: r, h => by
    have h : (match x == y with
      | true => some g2
      | false => r.lookup x) = some g := h
    cases q : (x == y) with
    | true =>
      rw [q] at h
      cases h
      rw [eq_of_beq q]
      exact List.mem_cons_self ..
    | false =>
      rw [q] at h
      exact List.mem_cons_of_mem _ (lk_mem h)
theorem xs_of {c : Str} {f : Xd → Str} (h : (p.xs.any fun x => decide (f x = c)) = true) : ∃ x ∈ p.xs, f x = c := by
  obtain ⟨x, h1, h2⟩ := List.any_eq_true.mp h
  exact ⟨x, h1, of_decide_eq_true h2⟩
abbrev DefAt (K : PySem.W.Frag) (d : Df) (fd : FuncData) : Prop := L2.FunD K d.name d.name (L2.defArgs d.st) (L2.defBody d.st) (L2.defScope d.st) [] [] (He.ga K d.name) fd
/-- the promise of each def below a level -/
def Below (P : Program) (w : World) (K : PySem.W.Frag) (mg : Str → Option Value) (base : Heap) (T : Tx) (p : Pg) (defs : List Df) (k : Nat) : Prop := ∀ d ∈ defs, d.k < k → (d.lam = true → T.cb = none) → ∀ fd, DefAt K d fd →
  FnG (p.gn d.name) P w K mg base (d.k + 1) (He.ga K d.name) fd d.ps (spOf ⟨K, mg, T, w, []⟩ d.ps.length (p.call d.name))
theorem Told.def_ (t : Told p defs hofs K) {d : Df} (h : d ∈ defs) : ∃ fd, DefAt K d fd := by
  have q := t.d.defs (d := defD d) (List.mem_append_left _ (List.mem_append_left _ (List.mem_map_of_mem h)))
  exact q
theorem Told.hof (t : Told p defs hofs K) {d : Df} (h : d ∈ hofs) : ∃ fd, DefAt K d fd := by
  have q := t.d.defs (d := defD d) (List.mem_append_left _ (List.mem_append_right _ (List.mem_map_of_mem h)))
  exact q
theorem Told.xd (t : Told p defs hofs K) {x : Xd} (h : x ∈ p.xs) : ∃ fd, L2.FunD K "__init__" (x.name ++ ".__init__") (L2.defArgs x.st) (L2.defBody x.st) (L2.defScope x.st) [] [] (He.ma K (He.ga K x.name) "__init__") fd := by
  have q := t.d.defs (d := xdD x) (List.mem_append_right _ (List.mem_map_of_mem h))
  exact q
theorem Told.xs (t : Told p defs hofs K) {x : Xd} (h : x ∈ p.xs) : ExK K (He.ga K x.name) (He.ma K (He.ga K x.name) "__init__") ∧ PySem.W.findIn K (.ref (He.ga K x.name)) x.f = some none ∧ ClsOk K (He.ga K x.name) ∧ ∀ y ∈ p.xs, PySem.W.findIn K (.ref (He.ga K x.name)) y.f = some none := by
  have q := t.ex
  unfold Pg.ex at q
  rw [Bool.and_eq_true] at q
  have q1 := List.all_eq_true.mp q.1 x h
  rw [Bool.and_eq_true, Bool.and_eq_true] at q1
  obtain ⟨a, b⟩ := exB_ok q1.1.1
  exact ⟨a, b, clB_ok q1.1.2, fun y hy => of_decide_eq_true (List.all_eq_true.mp q1.2 y hy)⟩
theorem Told.sub (t : Told p defs hofs K) {q : Str × Str × Bool} (h : q ∈ p.subs) : PySem.W.kitOne K (.ref (He.ga K q.1)) (.ref (He.ga K q.2.1)) = some q.2.2 ∧ PySem.W.exmOne K (.ref (He.ga K q.1)) (.ref (He.ga K q.2.1)) = some q.2.2 := by
  have q0 := t.ex
  unfold Pg.ex at q0
  rw [Bool.and_eq_true] at q0
  have q1 := List.all_eq_true.mp q0.2 q h
  rw [Bool.and_eq_true] at q1
  exact ⟨of_decide_eq_true q1.1, of_decide_eq_true q1.2⟩
theorem defAt_bind {d : Df} {fd : FuncData} (F : DefAt K d fd) (O : DefOk p d) : L2.Binds K fd d.ps [] ∧ (∀ ks ix, p.kws.contains (d.name, ks) = true → kwOrder d.ps ks = some ix → KwB K fd d.ps ks ix) := by
  obtain ⟨oc, od, dV, kV, doc, pm, an, cdv, ct, osl, rfl, lk, hcd, hD, hK⟩ := F.ex
  rcases hD with ⟨_, rfl⟩ | ⟨e, _⟩
  · exact ⟨L2.Binds.all fun us hl => O.bind kV doc pm an cdv ct us hl, fun ks ix h1 h2 s ws _ hl => .of_eq (O.kw ks ix h1 h2 kV doc pm an cdv ct ws hl)⟩
  · exact absurd rfl e
section
variable (W : PgOk p defs hofs) (t : Told p defs hofs K) (X : K.In h) (G : h.Ns mainGlobals mg)
include W t X G
theorem mg_def {d : Df} (hd : d ∈ defs) : mg d.name = some (.ref (He.ga K d.name)) := He.glo_ok X G (t.fa (by
  unfold Pg.fa
  simp only [List.append_assoc]
  exact List.mem_append_left _ (List.mem_map_of_mem (f := fun d : Df => He.Fa.glo d.name) hd)))
theorem mg_hof {d : Df} (hd : d ∈ hofs) : mg d.name = some (.ref (He.ga K d.name)) := He.glo_ok X G (t.fa (by
  unfold Pg.fa
  simp only [List.append_assoc]
  exact List.mem_append_right _ (List.mem_append_left _ (List.mem_map_of_mem (f := fun d : Df => He.Fa.glo d.name) hd))))
theorem mg_xs {x : Xd} (hx : x ∈ p.xs) : mg x.name = some (.ref (He.ga K x.name)) := He.glo_ok X G (t.fa (by
  unfold Pg.fa
  simp only [List.append_assoc]
  exact List.mem_append_right _ (List.mem_append_right _ (List.mem_append_left _ (List.mem_map_of_mem (f := fun x : Xd => He.Fa.glo x.name) hx)))))
theorem mg_ct {c : Str} (hx : c ∈ p.cts) : mg c = some (.ref (He.ga K c)) := He.glo_ok X G (t.fa (by
  unfold Pg.fa
  simp only [List.append_assoc]
  exact List.mem_append_right _ (List.mem_append_right _ (List.mem_append_right _ (List.mem_append_left _ (List.mem_map_of_mem (f := He.Fa.glo) hx))))))
theorem mg_sub {q : Str × Str × Bool} (hx : q ∈ p.subs) : mg q.2.1 = some (.ref (He.ga K q.2.1)) := He.glo_ok X G (t.fa (by
  unfold Pg.fa
  simp only [List.append_assoc]
  exact List.mem_append_right _ (List.mem_append_right _ (List.mem_append_right _ (List.mem_append_right _ (List.mem_append_left _ (List.mem_map_of_mem (f := fun q : Str × Str × Bool => He.Fa.glo q.2.1) hx)))))))
theorem mg_blt {x : Str} (hx : x ∈ blts) (hn : p.tab.lookup x = none) : mg x = none := He.free_ok X G (t.fa (by
  unfold Pg.fa
  simp only [List.append_assoc]
  refine List.mem_append_right _ (List.mem_append_right _ (List.mem_append_right _ (List.mem_append_right _ (List.mem_append_right _ (List.mem_append_left _ ?_)))))
  exact List.mem_filterMap.mpr ⟨x, hx, by rw [hn]; rfl⟩))
theorem fa_cst {x : Str} {v : PV} {f : He.Fa} (hx : (x, GK.cst v) ∈ p.tab) (e : (match GK.cst v with
    | .cst (.str z) => some (He.Fa.str x z)
    | .cst (.int i) => some (He.Fa.int x i)
    | _ => none) = some f) : f.ok K = true := t.fa (by
  unfold Pg.fa
  simp only [List.append_assoc]
  refine List.mem_append_right _ (List.mem_append_right _ (List.mem_append_right _ (List.mem_append_right _ (List.mem_append_right _ (List.mem_append_right _ ?_)))))
  exact List.mem_filterMap.mpr ⟨(x, .cst v), hx, e⟩)
/-- the tables of a def's reading say what is -/
theorem tab_ok {T : Tx} {d : Df} (hT : T.ex = none) (hl : ∀ e ∈ defs, e.k < d.k → e.lam = false) (B : Below P w K mg base T p defs d.k) : TabOk P w K mg base T (p.dc d) where
  kls := fun c hc => by
    obtain ⟨x, hx, rfl⟩ := xs_of (f := Xd.name) hc
    obtain ⟨_, _, h3, h4⟩ := t.xs hx
    refine ⟨_, mg_xs W t X G hx, h3, fun f hf => ?_⟩
    obtain ⟨y, hy, rfl⟩ := xs_of (f := Xd.f) hf
    exact h4 y hy
  sub := fun c c2 b hc hs => by
    obtain ⟨x, hx, rfl⟩ := xs_of (f := Xd.name) hc
    obtain ⟨q, hq, rfl⟩ := Option.map_eq_some_iff.mp hs
    have h1 := List.mem_of_find?_eq_some hq
    have h2 := List.find?_some hq
    rw [Bool.and_eq_true, decide_eq_true_eq, decide_eq_true_eq] at h2
    obtain ⟨h3, rfl⟩ := h2
    obtain ⟨k1, k2⟩ := t.sub h1
    rw [h3] at k1 k2
    exact ⟨W.sdb q h1, _, _, mg_xs W t X G hx, mg_sub W t X G h1, k1, k2⟩
  cat := fun c hc => by
    obtain ⟨x, hx, e⟩ := List.any_eq_true.mp hc
    obtain rfl := of_decide_eq_true e
    exact ⟨W.cdb x hx, _, mg_ct W t X G hx⟩
  blt := fun x hx hn => mg_blt W t X G hx (dc_none hn)
  cst := fun x v hv => by
    have hm := lk_mem (dc_G (g := .cst v) (fun z => nomatch z) hv)
    obtain ⟨h1, h2⟩ := W.cst _ hm v rfl
    refine ⟨h2, ?_⟩
    rcases h1 with ⟨z, rfl⟩ | ⟨i, rfl⟩
    · obtain ⟨tk, e⟩ := He.str_ok X G (fa_cst W t X G hm rfl)
      exact ⟨_, .str z, e, ⟨tk, rfl⟩, fun T hd ρ H => .str z⟩
    · obtain ⟨tk, e⟩ := He.int_ok X G (fa_cst W t X G hm rfl)
      exact ⟨_, .int i, e, ⟨tk, rfl⟩, fun T hd ρ H => .int i⟩
  fns := fun x ps hx hk => by
    have hm := lk_mem (dc_G (g := .fn ps) (fun z => nomatch z) hx)
    obtain ⟨d2, hd2, h1, h2⟩ := W.fns _ hm ps rfl
    have h1 : d2.name = x := h1
    subst h1 h2
    have O := W.d d2 hd2
    obtain ⟨fd, F⟩ := t.def_ hd2
    obtain ⟨b1, b2⟩ := defAt_bind F O
    have hk : p.lv d2.name < d.k := hk
    rw [O.lv] at hk
    refine ⟨_, fd, mg_def W t X G hd2, F.kp, O.db, b1, b2, ?_⟩
    show FnG (p.gn d2.name) P w K mg base (p.lv d2.name + 1) _ _ _ _
    rw [O.lv]
    exact B d2 hd2 hk (fun z => by rw [hl d2 hd2 hk] at z; cases z) fd F
  excs := fun c ps hc X2 E eP ew eK emg eb hcalm hr hg htk es f q pos h0 hs ha => by
    have hm := lk_mem (dc_G (g := .exc ps) (fun z => nomatch z) hc)
    obtain ⟨x, hx, h1, h2⟩ := W.exs _ hm ps rfl
    have h1 : x.name = c := h1
    subst h1 h2 eP ew eK emg eb
    have O := W.x x hx
    obtain ⟨k1, k2, _, _⟩ := t.xs hx
    obtain ⟨fd, F⟩ := t.xd hx
    obtain ⟨p1, p2, p3, p4, hb⟩ := O.body
    obtain ⟨oc, od, dV, kV, doc, pm, an, cdv, ct, osl, rfl, lk, hcd, hD, hK⟩ := F.ex
    rcases hD with ⟨_, rfl⟩ | ⟨e, _⟩
    · refine mk_own k1 k2 (F1 := ?_) (L2.Binds.all fun us hl => O.bind kV doc pm an cdv ct us hl) hr hg (mg_xs W t X G hx) O.db h0 hs ha
      rw [hb] at lk ⊢
      exact init_fn lk hcd O.fs O.sl
    · exact absurd rfl e
/-- the tables of code objects that are told -/
def tabsOf (K : PySem.W.Frag) (defs : List Df) : List (Addr × Str) := (defs.filter (·.lam)).map fun d => ((He.cT K (d.name, none)).2, (d.name ++ ".<locals>.") ++ "<lambda>")
theorem low_lam {e : Df} (n : Nat) (he : ∀ d ∈ defs, d.lam = true → n ≤ d.k) : ∀ d ∈ defs, d.k < n → d.lam = false := fun d hd hk => by
  cases q : d.lam with
  | false => rfl
  | true => exact absurd (he d hd q) (Nat.not_le.mpr hk)
/-- every def keeps its promise -/
theorem fn_all (KB : K.In base) (tb : ∀ d ∈ defs, d.lam = true → LamX.TabB base mg (He.cT K (d.name, none)).1 (He.cT K (d.name, none)).2) : ∀ (k : Nat) (T : Tx), T.ex = none → T.tabs = tabsOf K defs → Below P w K mg base T p defs k
  | 0, T, _, _ => fun d _ hk => absurd hk (Nat.not_lt_zero _)
  | k + 1, T, hx, hts => fun d hd hk hcb fd F => by
    have ih := fn_all KB tb k
    by_cases hlt : d.k < k
    · exact ih T hx hts d hd hlt hcb fd F
    have ek : d.k = k := by omega
    have O := W.d d hd
    have hlow : ∀ e ∈ defs, e.k < d.k → e.lam = false := fun e he hek => by
      cases q : e.lam with
      | false => rfl
      | true =>
        have := (W.top e he q).2.2.1 d hd
        omega
    have TB : TabOk P w K mg base T (p.dc d) := tab_ok W t X G hx hlow (by rw [ek]; exact ih T hx hts)
    obtain ⟨oc, od, dV, kV, doc, pm, an, cdv, ct, osl, rfl, lk, hcd, hD, hK⟩ := F.ex
    rcases hD with ⟨_, rfl⟩ | ⟨e, _⟩
    · have r := fnG_of (P := P) (w := w) (mg := mg) (base := base) (T := T) (D := p.dc d) (b := p.gn d.name) (keep := d.keep) (n := d.n) (m := d.m) lk hcd O.fs rfl rfl TB ?_ O.sl (fun z => O.gn z) hx rfl rfl (fun z y q => ?_) O.den
      · rw [← O.call] at r
        exact r
      · intro A outer s H E hr hg y hy
        cases q : d.lam with
        | false =>
          have hy : (if d.lam then p.tab.lookup y else noHof (p.tab.lookup y)) = some .hof := hy
          rw [q] at hy
          exact absurd hy noHof_hof
        | true =>
          obtain ⟨w1, w2, w3, w4, w5⟩ := W.top d hd q
          have hy : (if d.lam then p.tab.lookup y else noHof (p.tab.lookup y)) = some .hof := hy
          rw [q] at hy
          obtain ⟨e, he, h1⟩ := W.hof _ (lk_mem hy) rfl
          have h1 : e.name = y := h1
          subst h1
          have OH := W.h e he
          obtain ⟨fdh, FH⟩ := t.hof he
          obtain ⟨a, ha, hn0, hvis, hda, hdc, hden⟩ := OH.ex
          obtain ⟨c, rfl⟩ := He.codeIn_ref hcd
          have hco : He.codeOf K (d.name, none) = c := He.codeOf_eq (p := (d.name, none)) lk rfl
          refine hof_at (D2 := p.dc e) (a := a) (n := e.n) (g2 := p.g2 e.name) (co := (He.cT K (d.name, none)).1) (ta := (He.cT K (d.name, none)).2) ?_ hr w2 (w4 e he) OH.callT hx (hcb q) (tb d hd q) (by show Value.ref c = _; rw [← hco]; rfl) ?_ ?_
          · refine ⟨?_, hn0, OH.db, hda, hdc, OH.sl, fun z hz => ?_, rfl, fun _ => hg w1, fun cb => ?_⟩
            · obtain ⟨oc2, od2, dV2, kV2, doc2, pm2, an2, cdv2, ct2, osl2, rfl, lk2, hcd2, hD2, hK2⟩ := FH.ex
              rcases hD2 with ⟨_, rfl⟩ | ⟨ee, _⟩
              · have bb : L2.Binds K (PySem.W.fnOf e.name e.name (L2.defArgs e.st) (L2.defBody e.st) (L2.defScope e.st) .none kV2 doc2 pm2 an2 cdv2 ct2) [a] [] := L2.Binds.all fun us hl => by
                  have z := OH.bind kV2 doc2 pm2 an2 cdv2 ct2 us (by rw [ha]; exact hl)
                  rw [ha] at z
                  exact z
                have ss : L2.FnScope e.N [a] (L2.defScope e.st) := by
                  have z := OH.fs
                  rw [ha] at z
                  exact z
                exact ⟨_, _, _, _, _, _, _, _, _, _, _, _, _, _, mg_hof W t X G he, FH.kp, lk2, hcd2, bb, ss, rfl, hvis, hden⟩
              · exact absurd rfl ee
            · have hz : (if e.lam then p.tab.lookup z else noHof (p.tab.lookup z)) = some .hof := hz
              rw [OH.nl] at hz
              exact absurd hz noHof_hof
            · have hlow2 : ∀ d2 ∈ defs, d2.k < e.k → d2.lam = false := fun d2 h2 hek => by
                cases q2 : d2.lam with
                | false => rfl
                | true =>
                  have := (W.top d2 h2 q2).2.2.2.1 e he
                  omega
              refine tab_ok (T := ⟨T.tabs, none, cb⟩) W t X G rfl hlow2 fun d2 h2 hk2 hc2 fd2 F2 => ?_
              have hle : d2.k < k := by
                have := w4 e he
                omega
              exact ih ⟨T.tabs, none, cb⟩ rfl hts d2 h2 hle (fun z => by rw [hlow2 d2 h2 hk2] at z; cases z) fd2 F2
          · rw [hts]
            exact List.mem_map.mpr ⟨d, List.mem_filter.mpr ⟨hd, q⟩, rfl⟩
          · rw [hts]
            intro pp hpp _
            obtain ⟨d3, h3, rfl⟩ := List.mem_map.mp hpp
            obtain ⟨h4, h5⟩ := List.mem_filter.mp h3
            show (d3.name ++ ".<locals>.") ++ "<lambda>" = _
            rw [w5 d3 h4 h5]
            rfl
      · have q : (if d.lam then p.tab.lookup y else noHof (p.tab.lookup y)) = some .hof := q
        rw [O.tl z] at q
        exact absurd q noHof_hof
    · exact absurd rfl e
end
end
/-- the defs whose tables are looked at -/
def tfOf (defs : List Df) : List He.Defn := (defs.filter (·.lam)).map fun d => (d.name, none)
/-- the entry of law, the written part found by the head -/
theorem walk_lawE {l : PySem.W.OpenLaw} {n k : Nat} {q : Program} {loose : List Str} {XP : (Str → Option Value) → Heap → Prop} {YP : World → Heap → Prop} {d : DefRec} {x : Str}
    (hn : l.most = some n) (hn2 : n ≤ sizeLine) (hdf : d.params.defaults = []) (hr : L2.Room k callerA)
    (F : ∀ (w : World) (mg : Str → Option Value) (fa : Addr) (h : Heap), YP w h → h.Ns mainGlobals mg → mg d.name = some (.ref fa) → ∃ K : PySem.W.Frag, K.In h ∧ LawG l w K k n x mg fa h) :
    PySem.W.WalkO q loose XP YP l.row.toRowW d [] (fun f vs => PySem.call f vs) := by
  refine Att.attach_callB hn hdf fun w s₀ s₁ mg mb fa o pm cd doc a vs ns G Y ho hd hcd hmg hobj hints hlen hbits hg => ?_
  obtain ⟨K, KX, b, fd, cs, sp, h1, h2, h3, h4, h5, h6⟩ := F w mg fa _ Y G.T.g hmg
  exact law_go KX G.T.g G.T.b G.T.builtins G.T.nolimit hg h1 h2 h3 G.T.bmain hobj hints (Nat.le_trans hlen hn2) hr h6 h4 fun H hH hS => h5 H a ns hlen hbits hH hS
/-- a text keeps its law -/
theorem text_law {l : PySem.W.OpenLaw} {w : World} {K : PySem.W.Frag} {mg : Str → Option Value} {fa : Addr} {h : Heap} {p : Pg} {defs hofs : List Df} {dl : Df} {x : Str} {n : Nat} (W : PgOk p defs hofs) (X : K.In h) (G : h.Ns mainGlobals mg) (S : He.SaysX (p.fa defs hofs) (p.fn defs hofs) [] (tfOf defs) p.ex w h K)
    (hd : dl ∈ defs) (hps : dl.ps = [x]) (hfa : mg dl.name = some (.ref fa)) (hbind : ∀ (fd : FuncData), DefAt K dl fd → ∀ (s : Shared) (u : Value), BindsTo s fd ⟨[u], []⟩ [(x, u)])
    (hlaw : ∀ ns : List Int, ns.length ≤ n → (∀ z ∈ ns, Builtin.Int.intBits z ≤ 1048576) → ∃ h', p.call dl.name [.scr ns] [] = .ok (.bl true) h') : LawG l w K (dl.k + 1) n x mg fa h := by
  have t : Told p defs hofs K := ⟨S.t.d, S.more⟩
  obtain ⟨fd, F⟩ := t.def_ hd
  have e := hfa.symm.trans (mg_def W t X G hd)
  cases e
  let T : Tx := ⟨tabsOf K defs, none, none⟩
  refine ⟨p.gn dl.name, fd, (tfOf defs).map (He.cT K), spOf ⟨K, mg, T, w, []⟩ dl.ps.length (p.call dl.name), fun q hq => ?_, fun q hq => ?_, fun q hq => ?_, hbind fd F, fun H a ns hl hbits hH hS => ?_, fun base KB NB tb => ?_⟩
  · obtain ⟨z, hz, rfl⟩ := List.mem_map.mp hq
    exact S.empty z hz
  · obtain ⟨z, hz, rfl⟩ := List.mem_map.mp hq
    exact S.out z hz
  · obtain ⟨z, hz, rfl⟩ := List.mem_map.mp hq
    exact PySem.W.codeHd_of_K X (S.hd z hz)
  · obtain ⟨h', e1⟩ := hlaw ns hl hbits
    refine ⟨[], [], [], [.scr ns], by rw [hps]; rfl, ⟨rfl, List.nodup_nil, fun k c a h1 => (by simp at h1), fun q hq => ?_, fun a ha => absurd ha (by simp), ⟨fun _ _ _ _ e => (nomatch e), fun _ _ _ _ _ e => (nomatch e)⟩⟩, .cons (.scr ?_) .nil, ?_⟩
    · obtain ⟨d, h1, rfl⟩ := List.mem_map.mp hq
      refine LamX.TabS.nil (hH _ (List.mem_map.mpr ⟨(d.name, none), List.mem_map.mpr ⟨d, h1, rfl⟩, rfl⟩))
    · exact hS.elim (fun h => .inl ⟨h, by simp, by simp⟩) .inr
    · rw [e1]
      intro ρ' H' b s r rv
      cases rv
      rfl
  · have r := fn_all (P := l.prog) (w := w) W t X G KB (fun d h1 h2 => tb _ (List.mem_map.mpr ⟨(d.name, none), List.mem_map.mpr ⟨d, List.mem_filter.mpr ⟨h1, h2⟩, rfl⟩, rfl⟩)) (dl.k + 1) T rfl rfl dl hd (Nat.lt_succ_self _) (fun _ => rfl) fd F
    rw [hps] at r ⊢
    exact r
/-! ### checks -/
theorem kw_no {l : List (Str × List Str)} {f : Str} (h : (l.any fun q => decide (q.1 = f)) = false) (ks : List Str) : ¬ l.contains (f, ks) = true := fun z => by
  rw [List.contains_iff_mem] at z
  have q := List.any_eq_false.mp h _ z
  exact q (decide_eq_true rfl)
theorem kw_one {l : List (Str × List Str)} {f : Str} {k ks : List Str} (h : (l.all fun q => !decide (q.1 = f) || decide (q.2 = k)) = true) (z : l.contains (f, ks) = true) : ks = k := by
  rw [List.contains_iff_mem] at z
  have q := List.all_eq_true.mp h _ z
  rw [Bool.or_eq_true] at q
  rcases q with q | q
  · rw [decide_eq_true rfl] at q
    cases q
  · exact of_decide_eq_true q
def fnScopeB (N ps : List Str) (sc : Scope) : Bool := decide (sc.kind = .function) && !sc.isCoroutine && !sc.isGenerator && decide N.Nodup && decide (N.take ps.length = ps) && (ps.all fun x => decide (sc.names.lookup x = some .local) || decide (sc.names.lookup x = some .cell)) && sc.names.all fun y => !decide (y.2 = .free)
theorem fnScope_by {N ps : List Str} {sc : Scope} (h : fnScopeB N ps sc = true) : L2.FnScope N ps sc := by
  unfold fnScopeB at h
  simp only [Bool.and_eq_true, Bool.not_eq_true', decide_eq_true_eq] at h
  obtain ⟨⟨⟨⟨⟨⟨h1, h2⟩, h3⟩, h4⟩, h5⟩, h6⟩, h7⟩ := h
  refine ⟨h1, h2, h3, h4, h5, fun x hx => ?_, fun y hy e => ?_⟩
  · have q := List.all_eq_true.mp h6 x hx
    rw [Bool.or_eq_true, decide_eq_true_eq, decide_eq_true_eq] at q
    exact q
  · have q := List.all_eq_true.mp h7 y hy
    rw [e] at q
    exact absurd q (by decide)
def slotsB (N : List Str) : Bool := N.all fun x => !(x == ("__debug__" : Str)) && !(x == ("__classdict__" : Str))
theorem slots_by {N : List Str} (h : slotsB N = true) : slotsOk N := fun x hx => by
  have q := List.all_eq_true.mp h x hx
  rw [Bool.and_eq_true, Bool.not_eq_true', Bool.not_eq_true'] at q
  exact q
def visC (sc : Scope) (x : Str) : Bool := decide (sc.names.lookup x = some .local) || decide (sc.names.lookup x = some .cell) || decide (sc.names.lookup x = some .free)
theorem vis_by {sc : Scope} {x : Str} (h : visC sc x = true) : L2.Vis sc x := by
  unfold visC at h
  simp only [Bool.or_eq_true, decide_eq_true_eq] at h
  rcases h with (h | h) | h
  · exact .inl h
  · exact .inr (.inl h)
  · exact .inr (.inr h)
def tabsB (tab : List (Str × GK)) (dn : List (Str × List Str)) (hn : List Str) (xn : List (Str × Str)) : Bool := tab.all fun q => match q.2 with
  | .fn ps => dn.any fun d => decide (d.1 = q.1) && decide (d.2 = ps)
  | .exc ps => xn.any fun x => decide (x.1 = q.1) && decide (ps = [x.2])
  | .hof => hn.any fun x => decide (x = q.1)
  | .cst (.str _) => !(q.1 == ("__debug__" : Str))
  | .cst (.int _) => !(q.1 == ("__debug__" : Str))
  | .cst _ => false
  | .no => true
/-- the defs with lambdas: level, repr, name; all levels -/
def topB (ds : List (Nat × Bool × Bool × Str)) (hk : List Nat) : Bool := ds.all fun d => !d.2.1 || (d.2.2.1 && decide (2 ≤ d.1) && (ds.all fun e => decide (e.1 ≤ d.1)) && (hk.all fun k => decide (k < d.1)) && ds.all fun e => !e.2.1 || decide (e.2.2.2 = d.2.2.2))
theorem pgOk_by {p : Pg} {defs hofs : List Df} (h1 : tabsB p.tab (defs.map fun d => (d.name, d.ps)) (hofs.map (·.name)) (p.xs.map fun x => (x.name, x.f)) = true) (h2 : topB (defs.map fun d => (d.k, d.lam, d.gd, d.name)) (hofs.map (·.k)) = true)
    (h3 : (p.subs.all fun q => !(q.2.1 == ("__debug__" : Str))) = true) (h4 : (p.cts.all fun c => !(c == ("__debug__" : Str))) = true) (hd : ∀ d ∈ defs, DefOk p d) (hh : ∀ d ∈ hofs, HfOk p d) (hx : ∀ x ∈ p.xs, XdOk p x) : PgOk p defs hofs where
  fns := fun q hq ps e => by
    have z := List.all_eq_true.mp h1 q hq
    rw [e] at z
    obtain ⟨d, a, b⟩ := List.any_eq_true.mp z
    obtain ⟨d2, c, rfl⟩ := List.mem_map.mp a
    rw [Bool.and_eq_true, decide_eq_true_eq, decide_eq_true_eq] at b
    exact ⟨d2, c, b.1, b.2⟩
  exs := fun q hq ps e => by
    have z := List.all_eq_true.mp h1 q hq
    rw [e] at z
    obtain ⟨d, a, b⟩ := List.any_eq_true.mp z
    obtain ⟨d2, c, rfl⟩ := List.mem_map.mp a
    rw [Bool.and_eq_true, decide_eq_true_eq, decide_eq_true_eq] at b
    exact ⟨d2, c, b.1, b.2⟩
  cst := fun q hq v e => by
    have z := List.all_eq_true.mp h1 q hq
    rw [e] at z
    cases v with
    | str s => exact ⟨.inl ⟨_, rfl⟩, by simpa using z⟩
    | int i => exact ⟨.inr ⟨_, rfl⟩, by simpa using z⟩
    | _ => cases z
  hof := fun q hq e => by
    have z := List.all_eq_true.mp h1 q hq
    rw [e] at z
    obtain ⟨d, a, b⟩ := List.any_eq_true.mp z
    obtain ⟨d2, c, rfl⟩ := List.mem_map.mp a
    exact ⟨d2, c, of_decide_eq_true b⟩
  d := hd
  h := hh
  top := fun d h e => by
    have z := List.all_eq_true.mp h2 _ (List.mem_map_of_mem h)
    simp only [e, Bool.not_true, Bool.false_or, Bool.and_eq_true, decide_eq_true_eq] at z
    obtain ⟨⟨⟨⟨z1, z2⟩, z3⟩, z4⟩, z5⟩ := z
    refine ⟨z1, z2, fun e he => ?_, fun e he => ?_, fun e he q => ?_⟩
    · have q := List.all_eq_true.mp z3 _ (List.mem_map_of_mem (f := fun d : Df => (d.k, d.lam, d.gd, d.name)) he)
      exact of_decide_eq_true q
    · have q := List.all_eq_true.mp z4 _ (List.mem_map_of_mem (f := fun d : Df => d.k) he)
      exact of_decide_eq_true q
    · have q2 := List.all_eq_true.mp z5 _ (List.mem_map_of_mem (f := fun d : Df => (d.k, d.lam, d.gd, d.name)) he)
      simp only [q, Bool.not_true, Bool.false_or, decide_eq_true_eq] at q2
      exact q2
  x := hx
  sdb := fun q hq => by
    have z := List.all_eq_true.mp h3 q hq
    simpa using z
  cdb := fun q hq => by
    have z := List.all_eq_true.mp h4 q hq
    simpa using z
end HS
end
-- text k78m
section
set_option Elab.async false
set_option linter.all false
set_option maxRecDepth 100000
set_option maxHeartbeats 4000000
namespace HS
open PySem PySem.Spec PyProof.Rows
namespace K78
def subs : List (Str × Str × Bool) := [(("BadGame" : Str), ("SlipError" : Str), true), (("BadGame" : Str), ("BadGame" : Str), true), (("BadGame" : Str), ("BadPlaces" : Str), false), (("BadPlaces" : Str), ("SlipError" : Str), true), (("BadPlaces" : Str), ("BadGame" : Str), false), (("BadPlaces" : Str), ("BadPlaces" : Str), true)]
def xsN : List (Str × Str) := [(("BadGame" : Str), ("thing" : Str)), (("BadPlaces" : Str), ("thing" : Str))]
def subX (a b : Str) : Option Bool := (subs.find? fun q => decide (q.1 = a) && decide (q.2.1 = b)).map (·.2.2)
def klX (c : Str) : Bool := xsN.any fun x => decide (x.1 = c)
noncomputable def m_is_integer : SS :=
    (sSeq (sRet (eAnd (eCall1 (bIsi "int") (eVar 0)) (eNot (eCall1 (bIsi "bool") (eVar 0)))))
    sNil)
noncomputable def c_is_integer : List PV → M PV := runD false 1 m_is_integer
noncomputable def m_is_from : SS :=
    (sSeq (sRet (eAnd (eCall c_is_integer [(eVar 0)]) (eBin cGe (eVar 0) (eVar 1))))
    sNil)
noncomputable def c_is_from : List PV → M PV := runD false 2 m_is_from
noncomputable def m_is_between : SS :=
    (sSeq (sRet (eAnd (eCall c_is_integer [(eVar 0)]) (eChain cLe cLe (eVar 1) (eVar 0) (eVar 2))))
    sNil)
noncomputable def c_is_between : List PV → M PV := runD false 3 m_is_between
noncomputable def m_is_tuple : SS :=
    (sSeq (sRet (eAnd (eCall1 (bIsi "tuple") (eVar 0)) (eBin cEq (eCall1 bLen (eVar 0)) (eVar 1))))
    sNil)
noncomputable def c_is_tuple : List PV → M PV := runD false 2 m_is_tuple
noncomputable def m_is_word : SS :=
    (sSeq (sRet (eAnd (eCall1 (bIsi "str") (eVar 0)) (eBin cIn (eVar 0) (eVar 1))))
    sNil)
noncomputable def c_is_word : List PV → M PV := runD false 2 m_is_word
noncomputable def m_do_ascend : SS :=
    (sSeq (sRet (eCall1 bAll (eComp false [1, 2] (iZip (eVar 0) (eSlice false (eVar 0) (ePart (eCst (.int 1))) eNoPart)) (gTp [(gNm 1), (gNm 2)]) tYes (eBin cLt (eVar 1) (eVar 2)))))
    sNil)
noncomputable def c_do_ascend : List PV → M PV := runD false 3 m_do_ascend
noncomputable def m_are_moves : SS :=
    (sSeq (sIf (tOr (tNot (tVal (eCall1 (bIsi "tuple") (eVar 0)))) (tOr (tBl (eBin cEq (eVar 0) (eTup []))) (tNot (tVal (eCall1 bAll (eComp false [2] (iSeq (eVar 0)) (gNm 2) tYes (eCall c_is_between [(eVar 2), (eCst (.int 0)), (eBin bSub (eVar 1) (eCst (.int 1)))]))))))) (sSeq (sRet (eCst (.bl false)))
    sNil) sNil)
    (sSeq (sRet (eCall c_do_ascend [(eVar 0)]))
    sNil))
noncomputable def c_are_moves : List PV → M PV := runD false 3 m_are_moves
noncomputable def m_is_slip : SS :=
    (sSeq (sRet (eAnd (eCall c_is_tuple [(eVar 0), (eCst (.int 2))]) (eAnd (eCall c_is_between [(eBin sIx (eVar 0) (eCst (.int 0))), (eCst (.int 0)), (eBin bSub (eVar 1) (eCst (.int 1)))]) (eCall c_is_from [(eBin sIx (eVar 0) (eCst (.int 1))), (eCst (.int 1))]))))
    sNil)
noncomputable def c_is_slip : List PV → M PV := runD false 2 m_is_slip
noncomputable def m_are_slips : SS :=
    (sSeq (sIf (tOr (tNot (tVal (eCall1 (bIsi "tuple") (eVar 0)))) (tNot (tVal (eCall1 bAll (eComp false [2] (iSeq (eVar 0)) (gNm 2) tYes (eCall c_is_slip [(eVar 2), (eVar 1)])))))) (sSeq (sRet (eCst (.bl false)))
    sNil) sNil)
    (sSeq (sRet (eCall c_do_ascend [(eComp false [2] (iSeq (eVar 0)) (gNm 2) tYes (eBin sIx (eVar 2) (eCst (.int 0))))]))
    sNil))
noncomputable def c_are_slips : List PV → M PV := runD false 3 m_are_slips
noncomputable def m_is_place_row : SS :=
    (sSeq (sIf (tOr (tNot (tVal (eCall c_is_tuple [(eVar 0), (eCst (.int 4))]))) (tOr (tNot (tVal (eCall c_is_word [(eBin sIx (eVar 0) (eCst (.int 0))), (eTup [(eCst (.str "keeper")), (eCst (.str "foe"))])]))) (tNot (tVal (eCall c_is_from [(eBin sIx (eVar 0) (eCst (.int 1))), (eCst (.int 0))]))))) (sSeq (sRet (eCst (.bl false)))
    sNil) sNil)
    (sSeq (sIf (tOr (tNot (tVal (eCall c_are_moves [(eBin sIx (eVar 0) (eCst (.int 2))), (eVar 1)]))) (tNot (tVal (eCall c_are_slips [(eBin sIx (eVar 0) (eCst (.int 3))), (eVar 1)])))) (sSeq (sRet (eCst (.bl false)))
    sNil) sNil)
    (sSeq (sRet (eOr (eBin cEq (eBin sIx (eVar 0) (eCst (.int 0))) (eCst (.str "keeper"))) (eBin cEq (eBin sIx (eVar 0) (eCst (.int 3))) (eTup []))))
    sNil)))
noncomputable def c_is_place_row : List PV → M PV := runD false 2 m_is_place_row
noncomputable def m_is_game_value : SS :=
    (sSeq (sRet (eAnd (eCall1 (bIsi "tuple") (eVar 0)) (eAnd (eBin cNe (eVar 0) (eTup [])) (eCall1 bAll (eComp false [1] (iSeq (eVar 0)) (gNm 1) tYes (eCall c_is_place_row [(eVar 1), (eCall1 bLen (eVar 0))]))))))
    sNil)
noncomputable def c_is_game_value : List PV → M PV := runD false 2 m_is_game_value
noncomputable def m_need_game : SS :=
    (sSeq (sIf (tNot (tVal (eCall c_is_game_value [(eVar 0)]))) (sSeq (sRaise "BadGame" ["thing"] [(eVar 0)])
    sNil) sNil)
    sNil)
noncomputable def c_need_game : List PV → M PV := runD false 1 m_need_game
noncomputable def m_is_place_of : SS :=
    (sSeq (sRet (eCall c_is_between [(eVar 1), (eCst (.int 0)), (eBin bSub (eCall1 bLen (eVar 0)) (eCst (.int 1)))]))
    sNil)
noncomputable def c_is_place_of : List PV → M PV := runD false 2 m_is_place_of
noncomputable def m_need_places : SS :=
    (sSeq (sExpr (eCall c_need_game [(eVar 0)]))
    (sSeq (sIf (tOr (tNot (tVal (eCall1 (bIsi "tuple") (eVar 1)))) (tOr (tNot (tVal (eCall1 bAll (eComp false [2] (iSeq (eVar 1)) (gNm 2) tYes (eCall c_is_place_of [(eVar 0), (eVar 2)]))))) (tNot (tVal (eCall c_do_ascend [(eVar 1)]))))) (sSeq (sRaise "BadPlaces" ["thing"] [(eVar 1)])
    sNil) sNil)
    sNil))
noncomputable def c_need_places : List PV → M PV := runD false 3 m_need_places
noncomputable def m_marked : SS :=
    (sSeq (sAsg (gNm 4) (eLst true []))
    (sSeq (sFor (iEnum (eVar 0)) (gTp [(gNm 5), (gTp [(gNm 6), (gNm 7), (gNm 8), (gNm 9)])]) (sSeq (sExpr (eMeth mAppend (eVar 4) [(eTup [(eVar 6), (eIf (tBl (eBin cIn (eVar 5) (eVar 1))) (eVar 2) (eVar 3)), (eVar 8), (eVar 9)])]))
    sNil))
    (sSeq (sRet (eCall1 bTuple (eVar 4)))
    sNil)))
noncomputable def c_marked : List PV → M PV := runD false 10 m_marked
noncomputable def m_stopped : SS :=
    (sSeq (sAsg (gNm 2) (eLst true []))
    (sSeq (sFor (iEnum (eVar 0)) (gTp [(gNm 3), (gTp [(gNm 4), (gNm 5), (gNm 6), (gNm 7)])]) (sSeq (sExpr (eMeth mAppend (eVar 2) [(eIf (tBl (eBin cIn (eVar 3) (eVar 1))) (eTup [(eVar 4), (eVar 5), (eTup [(eVar 3)]), (eTup [])]) (eTup [(eVar 4), (eVar 5), (eVar 6), (eVar 7)]))]))
    sNil))
    (sSeq (sRet (eCall1 bTuple (eVar 2)))
    sNil)))
noncomputable def c_stopped : List PV → M PV := runD false 8 m_stopped
noncomputable def m_safe_game : SS :=
    (sSeq (sExpr (eCall c_need_places [(eVar 0), (eVar 1)]))
    (sSeq (sRet (eCall c_stopped [(eCall c_marked [(eVar 0), (eVar 1), (eCst (.int 1)), (eCst (.int 0))]), (eVar 1)]))
    sNil))
noncomputable def c_safe_game : List PV → M PV := runD false 2 m_safe_game
noncomputable def m_reach_game : SS :=
    (sSeq (sExpr (eCall c_need_places [(eVar 0), (eVar 1)]))
    (sSeq (sRet (eCall c_stopped [(eCall c_marked [(eVar 0), (eVar 1), (eCst (.int 2)), (eCst (.int 1))]), (eVar 1)]))
    sNil))
noncomputable def c_reach_game : List PV → M PV := runD false 2 m_reach_game
noncomputable def m_again_game : SS :=
    (sSeq (sExpr (eCall c_need_places [(eVar 0), (eVar 1)]))
    (sSeq (sRet (eCall c_marked [(eVar 0), (eVar 1), (eCst (.int 2)), (eCst (.int 1))]))
    sNil))
noncomputable def c_again_game : List PV → M PV := runD false 2 m_again_game
noncomputable def m_seldom_game : SS :=
    (sSeq (sExpr (eCall c_need_places [(eVar 0), (eVar 1)]))
    (sSeq (sRet (eCall c_marked [(eVar 0), (eVar 1), (eCst (.int 1)), (eCst (.int 0))]))
    sNil))
noncomputable def c_seldom_game : List PV → M PV := runD false 2 m_seldom_game
noncomputable def m__law_deck : SS :=
    (sSeq (sAsg (gNm 1) (eCst (.int 15378885)))
    (sSeq (sFor (iSeq (eSlice false (eVar 0) eNoPart (ePart (eCst (.int 63))))) (gNm 2) (sSeq (sAsg (gNm 1) (eBin bMod (eCall1 bInt (eBin (bAdd false) (eBin (bAdd false) (eBin (bMul false) (eVar 1) (eCst (.int 69621))) (eBin bMod (eCall1 bInt (eVar 2)) (eCst (.int 2147483629)))) (eCst (.int 209)))) (eCst (.int 2147483563))))
    sNil))
    (sSeq (sRet (fun σ => eDisp true [((eCst (.str "cells")), (eUn (sRev true) (eCall1 (bList false) (eSlice false (eVar 0) eNoPart (ePart (eCst (.int 63))))))), ((eCst (.str "mixed")), (eVar 1)), ((eCst (.str "draws")), (eCst (.int 0)))] σ []))
    sNil)))
noncomputable def c__law_deck : List PV → M PV := runD true 3 m__law_deck
noncomputable def m__law_draw : SS :=
    (sSeq (sPut (eVar 0) (eCst (.str "draws")) (eBin (bAdd false) (eBin sIx (eVar 0) (eCst (.str "draws"))) (eCst (.int 1))))
    (sSeq (sAsg (gNm 2) (eBin (bAdd false) (eBin sIx (eVar 0) (eCst (.str "mixed"))) (eBin (bMul false) (eCst (.int 46399)) (eBin sIx (eVar 0) (eCst (.str "draws"))))))
    (sSeq (sIf (tBl (eBin cNe (eBin sIx (eVar 0) (eCst (.str "cells"))) (eLst false []))) (sSeq (sAsg (gNm 3) (eMeth mPop (eBin sIx (eVar 0) (eCst (.str "cells"))) []))
    (sSeq (sIf (tBl (eBin cGe (eVar 3) (eBin bPow (eCst (.int 10)) (eCst (.int 18))))) (sSeq (sExpr (eMeth mAppend (eBin sIx (eVar 0) (eCst (.str "cells"))) [(eBin bDiv (eVar 3) (eCall2 bMax2 (eCst (.int 2)) (eVar 1)))]))
    (sSeq (sRet (eBin bMod (eCall1 bInt (eVar 3)) (eVar 1)))
    sNil)) sNil)
    (sSeq (sAsg (gNm 2) (eBin (bAdd false) (eVar 2) (eBin bMod (eCall1 bInt (eVar 3)) (eCst (.int 2147483629)))))
    sNil))) sNil)
    (sSeq (sAsg (gNm 2) (eBin bMod (eCall1 bInt (eBin (bAdd false) (eBin (bMul false) (eVar 2) (eCst (.int 39373))) (eCst (.int 209)))) (eCst (.int 2147483647))))
    (sSeq (sAsg (gNm 2) (eBin bMod (eCall1 bInt (eBin (bAdd false) (eBin (bAdd false) (eBin (bMul false) (eVar 2) (eVar 2)) (eBin (bMul false) (eCst (.int 50503)) (eBin sIx (eVar 0) (eCst (.str "draws"))))) (eCst (.int 509)))) (eCst (.int 2147483579))))
    (sSeq (sAsg (gNm 2) (eBin bMod (eCall1 bInt (eBin (bMul false) (eVar 2) (eCst (.int 48271)))) (eCst (.int 2147483549))))
    (sSeq (sRet (eBin bMod (eCall1 bInt (eBin bDiv (eVar 2) (eCst (.int 64)))) (eVar 1)))
    sNil)))))))
noncomputable def c__law_draw : List PV → M PV := runD false 4 m__law_draw
noncomputable def m__law_pick : SS :=
    (sSeq (sRet (eBin sIx (eVar 1) (eCall c__law_draw [(eVar 0), (eCall1 bLen (eVar 1))])))
    sNil)
noncomputable def c__law_pick : List PV → M PV := runD false 2 m__law_pick
noncomputable def m__law_some : SS :=
    (sSeq (sRet (eCall1 bTuple (eCall1 (bSorted false) (eCall1 bSet (eComp false [3] (iRng1 (eBin (bAdd false) (eCst (.int 1)) (eCall c__law_draw [(eVar 0), (eVar 2)]))) (gNm 3) tYes (eCall c__law_draw [(eVar 0), (eVar 1)]))))))
    sNil)
noncomputable def c__law_some : List PV → M PV := runD false 4 m__law_some
noncomputable def m__law_order : SS :=
    (sSeq (sPar (gAll [(gNm 2), (gNm 3)]) [(eCall1 (bLstRg true) (eVar 1)), (eLst true [])])
    (sSeq (sFor (iRng1 (eVar 1)) (gNm 4) (sSeq (sExpr (eMeth mAppend (eVar 3) [(eMeth mPop (eVar 2) [(eCall c__law_draw [(eVar 0), (eCall1 bLen (eVar 2))])])]))
    sNil))
    (sSeq (sRet (eVar 3))
    sNil)))
noncomputable def c__law_order : List PV → M PV := runD false 5 m__law_order
noncomputable def m__law_renumbered : SS :=
    (sSeq (sAsg (gNm 2) (eCall1 (bDict false) (eComp false [9, 4] (iEnum (eVar 1)) (gTp [(gNm 9), (gNm 4)]) tYes (eTup [(eVar 4), (eVar 9)]))))
    (sSeq (sAsg (gNm 3) (eLst true []))
    (sSeq (sFor (iSeq (eVar 1)) (gNm 4) (sSeq (sAsg (gTp [(gNm 5), (gNm 6), (gNm 7), (gNm 8)]) (eBin sIx (eVar 0) (eVar 4)))
    (sSeq (sExpr (eMeth mAppend (eVar 3) [(eTup [(eVar 5), (eVar 6), (eCall1 bTuple (eCall1 (bSorted false) (eComp false [10] (iSeq (eVar 7)) (gNm 10) tYes (eBin sIx (eVar 2) (eVar 10))))), (eCall1 bTuple (eCall1 (bSorted false) (eComp false [10, 11] (iSeq (eVar 8)) (gTp [(gNm 10), (gNm 11)]) tYes (eTup [(eBin sIx (eVar 2) (eVar 10)), (eVar 11)]))))])]))
    sNil)))
    (sSeq (sRet (eCall1 bTuple (eVar 3)))
    sNil))))
noncomputable def c__law_renumbered : List PV → M PV := runD false 12 m__law_renumbered
noncomputable def m__law_game : SS :=
    (sSeq (sPar (gAll [(gNm 4), (gNm 5), (gNm 6), (gNm 7)]) [(eBin (bAdd false) (eCst (.int 1)) (eCall c__law_pick [(eVar 0), (eLst false [(eBin bSub (eVar 1) (eCst (.int 1))), (eBin bSub (eVar 1) (eCst (.int 1))), (eBin bSub (eVar 1) (eCst (.int 2))), (eCall c__law_draw [(eVar 0), (eVar 1)])])])), (eCall c__law_draw [(eVar 0), (eCst (.int 6))]), (eLst true []), (eVar 3)])
    (sSeq (sAsg (gNm 4) (eCall2 bMax2 (eCst (.int 1)) (eVar 4)))
    (sSeq (sAsg (gNm 8) (eCall c__law_pick [(eVar 0), (eLst false [(eTup [(eCst (.int 0)), (eCst (.int 1))]), (eTup [(eCst (.int 0)), (eCst (.int 1)), (eCst (.int 2))]), (eTup [(eCst (.int 0)), (eCst (.int 1)), (eCst (.int 2)), (eCst (.int 3))]), (eTup [(eCst (.int 1)), (eCst (.int 2))]), (eTup [(eCst (.int 0)), (eCst (.int 1)), (eCst (.int 3)), (eCst (.int 4))])])]))
    (sSeq (sFor (iRng1 (eVar 4)) (gNm 9) (sSeq (sPar (gAll [(gNm 10), (gNm 11)]) [(eIf (tBl (eBin cGt (eCall c__law_draw [(eVar 0), (eCst (.int 3))]) (eCst (.int 0)))) (eCst (.str "keeper")) (eCst (.str "foe"))), (eCall c__law_pick [(eVar 0), (eVar 8)])])
    (sSeq (sPar (gAll [(gNm 12), (gNm 13)]) [(eCall c__law_some [(eVar 0), (eVar 4), (eCst (.int 3))]), (fun _ => mkK true [])])
    (sSeq (sIf (tBl (eBin cLt (eVar 5) (eCst (.int 3)))) (sSeq (sAsg (gNm 14) (eBin cLt (eVar 9) (eBin bSub (eVar 4) (eCst (.int 1)))))
    (sSeq (sAsg (gTp [(gNm 10), (gNm 11)]) (eIf (tVal (eVar 14)) (eTup [(eCall c__law_pick [(eVar 0), (eLst false [(eCst (.str "keeper")), (eCst (.str "keeper")), (eCst (.str "keeper")), (eCst (.str "foe"))])]), (eBin (bMul false) (eCst (.int 2)) (eCall c__law_draw [(eVar 0), (eCst (.int 2))]))]) (eTup [(eCst (.str "foe")), (eCst (.int 1))])))
    (sSeq (sAsg (gNm 15) (eIf (tVal (eVar 14)) (eLst false [(eVar 9), (eCall c__law_draw [(eVar 0), (eBin (bAdd false) (eVar 9) (eCst (.int 1)))])]) (eLst false [(eVar 9)])))
    (sSeq (sAsg (gNm 12) (eCall1 bTuple (eCall1 (bSorted false) (eCall1 bSet (eBin (bAdd false) (eVar 15) (eIf (tAnd (tVal (eVar 14)) (tAnd (tBl (eBin cEq (eVar 10) (eCst (.str "keeper")))) (tBl (eBin cEq (eCall c__law_draw [(eVar 0), (eCst (.int 3))]) (eCst (.int 0)))))) (eLst false [(eBin (bAdd false) (eVar 9) (eCst (.int 1)))]) (eLst false [])))))))
    (sSeq (sPut (eVar 13) (eCall2 bMin2 (eBin (bAdd false) (eVar 9) (eCst (.int 1))) (eBin bSub (eVar 4) (eCst (.int 1)))) (eBin (bAdd false) (eCst (.int 1)) (eCall c__law_draw [(eVar 0), (eVar 2)])))
    (sSeq (sIf (tBl (eBin cEq (eCall c__law_draw [(eVar 0), (eCst (.int 4))]) (eCst (.int 0)))) (sSeq (sPut (eVar 13) (eBin bSub (eVar 4) (eCst (.int 1))) (eBin (bAdd false) (eCst (.int 1)) (eCall c__law_draw [(eVar 0), (eVar 2)])))
    sNil) sNil)
    sNil)))))) sNil)
    (sSeq (sIf (tBl (eBin cEq (eCall c__law_draw [(eVar 0), (eCst (.int 2))]) (eCst (.int 0)))) (sSeq (sPut (eVar 13) (eCall c__law_draw [(eVar 0), (eVar 4)]) (eBin (bAdd false) (eCst (.int 1)) (eCall c__law_draw [(eVar 0), (eVar 2)])))
    (sSeq (sIf (tBl (eBin cEq (eCall c__law_draw [(eVar 0), (eCst (.int 3))]) (eCst (.int 0)))) (sSeq (sPut (eVar 13) (eCall c__law_draw [(eVar 0), (eVar 4)]) (eBin (bAdd false) (eCst (.int 1)) (eCall c__law_draw [(eVar 0), (eVar 2)])))
    sNil) sNil)
    sNil)) sNil)
    (sSeq (sAsg (gNm 16) (eIf (tAnd (tBl (eBin cEq (eVar 10) (eCst (.str "keeper")))) (tBl (eBin cNe (eVar 5) (eCst (.int 5))))) (eCall1 bTuple (eSlice false (eComp false [17] (iSeq (eCall1 (bSorted false) (eCall1 (bList false) (eVar 13)))) (gNm 17) tYes (eTup [(eVar 17), (eBin sIx (eVar 13) (eVar 17))])) eNoPart (ePart (eVar 7)))) (eTup [])))
    (sSeq (sAsg (gNm 7) (eBin bSub (eVar 7) (eCall1 bLen (eVar 16))))
    (sSeq (sExpr (eMeth mAppend (eVar 6) [(eTup [(eVar 10), (eVar 11), (eVar 12), (eVar 16)])]))
    sNil))))))))
    (sSeq (sRet (eIf (tBl (eBin cEq (eCall c__law_draw [(eVar 0), (eCst (.int 2))]) (eCst (.int 0)))) (eCall c__law_renumbered [(eCall1 bTuple (eVar 6)), (eCall c__law_order [(eVar 0), (eVar 4)])]) (eCall1 bTuple (eVar 6))))
    sNil)))))
noncomputable def c__law_game : List PV → M PV := runD false 18 m__law_game
noncomputable def m__law_subset : SS :=
    (sSeq (sRet (eCall1 bTuple (eComp false [2] (iRng1 (eVar 1)) (gNm 2) (tBl (eBin cEq (eCall c__law_draw [(eVar 0), (eCst (.int 3))]) (eCst (.int 0)))) (eVar 2))))
    sNil)
noncomputable def c__law_subset : List PV → M PV := runD false 3 m__law_subset
noncomputable def m__law_no_game : SS :=
    (sSeq (sAsg (gTp [(gNm 2), (gNm 3), (gNm 4), (gNm 5)]) (eBin sIx (eVar 1) (eUn uNeg (eCst (.int 1)))))
    (sSeq (sAsg (gNm 6) (eCall1 bLen (eVar 1)))
    (sSeq (sAsg (gNm 7) (eLst false [(eCst .non), (eTup []), (eCst (.int 0)), (eCst (.str "")), (fun _ => mkK false []), (eCall1 (bList false) (eVar 1)), (eBin sIx (eVar 1) (eUn uNeg (eCst (.int 1)))), (eBin (bAdd false) (eVar 1) (eTup [(eCst .non)])), (eBin (bAdd false) (eVar 1) (eTup [(eTup [(eCst (.str "keeper")), (eCst (.int 0)), (eTup [(eCst (.int 0))])])])), (eBin (bAdd false) (eVar 1) (eTup [(eTup [(eCst (.str "keeper")), (eCst (.int 0)), (eTup [(eCst (.int 0))]), (eTup []), (eTup [])])]))]))
    (sSeq (sAsg (gNm 8) (eLst false [(eTup [(eCst (.str "nobody")), (eVar 3), (eVar 4), (eTup [])]), (eTup [(eVar 2), (eUn uNeg (eCst (.int 1))), (eVar 4), (eVar 5)]), (eTup [(eVar 2), (eCst (.bl true)), (eVar 4), (eVar 5)]), (eTup [(eVar 2), (eVar 3), (eTup []), (eVar 5)]), (eTup [(eVar 2), (eVar 3), (eTup [(eVar 6)]), (eVar 5)])]))
    (sSeq (sAsg (gNm 8) (eBin (bAdd false) (eVar 8) (eLst false [(eTup [(eVar 2), (eVar 3), (eCall1 (bList false) (eVar 4)), (eVar 5)]), (eTup [(eVar 2), (eVar 3), (eBin (bAdd false) (eVar 4) (eSlice false (eVar 4) (ePart (eUn uNeg (eCst (.int 1)))) eNoPart)), (eVar 5)]), (eTup [(eVar 2), (eVar 3), (eTup [(eCst (.bl false))]), (eVar 5)]), (eTup [(eVar 2), (eCall1 bStr (eVar 3)), (eVar 4), (eVar 5)])])))
    (sSeq (sAsg (gNm 8) (eBin (bAdd false) (eVar 8) (eLst false [(eTup [(eCst (.str "foe")), (eVar 3), (eVar 4), (eTup [(eTup [(eCst (.int 0)), (eCst (.int 1))])])]), (eTup [(eCst (.str "keeper")), (eVar 3), (eVar 4), (eTup [(eTup [(eCst (.int 0)), (eCst (.int 0))])])]), (eTup [(eCst (.str "keeper")), (eVar 3), (eVar 4), (eTup [(eTup [(eVar 6), (eCst (.int 1))])])]), (eTup [(eCst (.str "keeper")), (eVar 3), (eVar 4), (eTup [(eTup [(eCst (.int 0)), (eCst (.bl true))])])])])))
    (sSeq (sAsg (gNm 8) (eBin (bAdd false) (eVar 8) (eLst false [(eTup [(eCst (.str "keeper")), (eVar 3), (eVar 4), (eTup [(eTup [(eCst (.int 0)), (eCst (.int 1))]), (eTup [(eCst (.int 0)), (eCst (.int 2))])])]), (eTup [(eCst (.str "keeper")), (eVar 3), (eVar 4), (eLst false [(eTup [(eCst (.int 0)), (eCst (.int 1))])])]), (eTup [(eCst (.str "keeper")), (eVar 3), (eVar 4), (eTup [(eTup [(eCst (.int 0)), (eCst (.int 1)), (eCst (.int 1))])])]), (eLst false [(eCst (.str "keeper")), (eVar 3), (eVar 4), (eTup [])])])))
    (sSeq (sRet (eCall c__law_pick [(eVar 0), (eBin (bAdd false) (eVar 7) (eComp false [9] (iSeq (eVar 8)) (gNm 9) tYes (eBin (bAdd false) (eSlice false (eVar 1) eNoPart (ePart (eUn uNeg (eCst (.int 1))))) (eTup [(eVar 9)]))))]))
    sNil))))))))
noncomputable def c__law_no_game : List PV → M PV := runD false 10 m__law_no_game
noncomputable def g__law_tried (cb : M PV) : SS :=
    (sSeq (sTry 3 1 (fun x => subX x "SlipError") klX (sSeq (sExpr (eCb 0 cb))
    sNil) (sSeq (sAsg (gNm 2) (eLst false [(eIsx subX 1 "BadGame"), (eIsx subX 1 "BadPlaces")]))
    (sSeq (sRet (eTup [(eCst (.str "raised")), (eVar 2), (eIf (tBl (eBin cIn (eCst (.bl true)) (eVar 2))) (eCall1 bRepr (eFld 1 "thing")) (eCst .non))]))
    sNil)))
    (sSeq (sRet (eTup [(eCst (.str "returned"))]))
    sNil))
noncomputable def t__law_tried : M PV → M PV := runT 3 g__law_tried
noncomputable def m_law : SS :=
    (sSeq (sAsg (gNm 1) (eCall c__law_deck [(eVar 0)]))
    (sSeq (sFor (iRng1 (eCst (.int 6))) (gNm 2) (sSeq (sAsg (gNm 3) (eCall c__law_game [(eVar 1), (eCst (.int 5)), (eCst (.int 3)), (eCst (.int 5))]))
    (sSeq (sAsg (gNm 4) (eCall1 bLen (eVar 3)))
    (sSeq (sPar (gAll [(gNm 5), (gNm 6)]) [(eBin cGt (eCall c__law_draw [(eVar 1), (eCst (.int 4))]) (eCst (.int 0))), (eBin cEq (eCall c__law_draw [(eVar 1), (eCst (.int 2))]) (eCst (.int 0)))])
    (sSeq (sAsg (gNm 7) (eIf (tVal (eVar 5)) (eVar 3) (eCall c__law_no_game [(eVar 1), (eVar 3)])))
    (sSeq (sAsg (gNm 8) (eLst false [(eCst .non), (eCst (.int 0)), (eLst false [(eCst (.int 0))]), (eTup [(eVar 4)]), (eTup [(eUn uNeg (eCst (.int 1)))]), (eTup [(eCst (.int 0)), (eCst (.int 0))]), (eTup [(eCst (.bl true))]), (eTup [(eCst (.bl false))]), (eTup [(eCst (.str "0"))]), (eTup [(eCst (.int 0)), (eVar 4)]), (eTup [(eTup [(eCst (.int 0))])]), (fun _ => mkK false []), (eCst (.str "0")), (eTup [(eCst .non)]), (eCall1 (bLstRg false) (eVar 4)), (eBin bPow (eCst (.int 10)) (eCst (.int 39)))]))
    (sSeq (sAsg (gNm 9) (eIf (tVal (eVar 6)) (eCall c__law_subset [(eVar 1), (eVar 4)]) (eCall c__law_pick [(eVar 1), (eBin (bAdd false) (eVar 8) (eIf (tBl (eBin cGt (eVar 4) (eCst (.int 1)))) (eLst false [(eTup [(eCst (.int 1)), (eCst (.int 0))]), (eUn (sRev false) (eCall1 bTupRg (eVar 4))), (eTup [(eCst (.int 0)), (eCst (.int 1)), (eCst (.int 0))])]) (eLst false [])))])))
    (sSeq (sAsg (gNm 10) (eIf (tNot (tVal (eVar 5))) (eTup [(eCst (.str "raised")), (eLst false [(eCst (.bl true)), (eCst (.bl false))]), (eCall1 bRepr (eVar 7))]) (eIf (tVal (eVar 6)) (eTup [(eCst (.str "returned"))]) (eTup [(eCst (.str "raised")), (eLst false [(eCst (.bl false)), (eCst (.bl true))]), (eCall1 bRepr (eVar 9))]))))
    (sSeq (sAsg (gNm 11) (eLst true [(fun σ => t__law_tried ((eCall c_safe_game [(eVar 7), (eVar 9)]) σ))]))
    (sSeq (sExpr (eMeth mAppend (eVar 11) [(fun σ => t__law_tried ((eCall (fun vs => (M.ofO (reorder [1, 0] vs)).bnd c_reach_game) [(eVar 9), (eVar 7)]) σ))]))
    (sSeq (sExpr (eMeth mAppend (eVar 11) [(fun σ => t__law_tried ((eCall c_again_game [(eVar 7), (eVar 9)]) σ))]))
    (sSeq (sExpr (eMeth mAppend (eVar 11) [(fun σ => t__law_tried ((eCall (fun vs => (M.ofO (reorder [1, 0] vs)).bnd c_seldom_game) [(eVar 9), (eVar 7)]) σ))]))
    (sSeq (sIf (tBl (eBin cNe (eCall1 bRepr (eVar 11)) (eCall1 bRepr (eBin (bMul false) (eLst false [(eVar 10)]) (eCst (.int 4)))))) (sSeq (sRet (eCst (.bl false)))
    sNil) sNil)
    sNil)))))))))))))
    (sSeq (sRet (eCst (.bl true)))
    sNil)))
noncomputable def c_law : List PV → M PV := runD false 12 m_law
end K78
end HS
end
-- text k78a
section
set_option Elab.async false
set_option linter.all false
set_option maxRecDepth 100000
set_option maxHeartbeats 4000000
namespace HS
open PySem PySem.Spec PyProof.Rows
namespace K78
def top (i : Nat) : Stmt := PySem.Challenge.pw_howmanyslips_k78_refusals_of_goals.main.body.getD i (.Pass ⟨0, 0, 0, 0⟩)
def tab : List (Str × GK) := [(("is_integer" : Str), GK.fn [("thing" : Str)]), (("is_from" : Str), GK.fn [("thing" : Str), ("least" : Str)]), (("is_between" : Str), GK.fn [("thing" : Str), ("least" : Str), ("most" : Str)]), (("is_tuple" : Str), GK.fn [("thing" : Str), ("length" : Str)]), (("is_word" : Str), GK.fn [("thing" : Str), ("words" : Str)]), (("do_ascend" : Str), GK.fn [("items" : Str)]), (("are_moves" : Str), GK.fn [("thing" : Str), ("many" : Str)]), (("is_slip" : Str), GK.fn [("thing" : Str), ("many" : Str)]), (("are_slips" : Str), GK.fn [("thing" : Str), ("many" : Str)]), (("is_place_row" : Str), GK.fn [("thing" : Str), ("many" : Str)]), (("is_game_value" : Str), GK.fn [("thing" : Str)]), (("need_game" : Str), GK.fn [("game" : Str)]), (("is_place_of" : Str), GK.fn [("game" : Str), ("thing" : Str)]), (("need_places" : Str), GK.fn [("game" : Str), ("chosen" : Str)]), (("marked" : Str), GK.fn [("game" : Str), ("chosen" : Str), ("mark" : Str), ("other" : Str)]), (("stopped" : Str), GK.fn [("game" : Str), ("chosen" : Str)]), (("safe_game" : Str), GK.fn [("game" : Str), ("bad" : Str)]), (("reach_game" : Str), GK.fn [("game" : Str), ("aims" : Str)]), (("again_game" : Str), GK.fn [("game" : Str), ("aims" : Str)]), (("seldom_game" : Str), GK.fn [("game" : Str), ("bad" : Str)]), (("_law_deck" : Str), GK.fn [("script" : Str)]), (("_law_draw" : Str), GK.fn [("deck" : Str), ("many" : Str)]), (("_law_pick" : Str), GK.fn [("deck" : Str), ("some" : Str)]), (("_law_some" : Str), GK.fn [("deck" : Str), ("n" : Str), ("most" : Str)]), (("_law_order" : Str), GK.fn [("deck" : Str), ("n" : Str)]), (("_law_renumbered" : Str), GK.fn [("game" : Str), ("order" : Str)]), (("_law_game" : Str), GK.fn [("deck" : Str), ("most" : Str), ("weight" : Str), ("slips" : Str)]), (("_law_subset" : Str), GK.fn [("deck" : Str), ("n" : Str)]), (("_law_no_game" : Str), GK.fn [("deck" : Str), ("game" : Str)]), (("_law_tried" : Str), GK.hof), (("law" : Str), GK.fn [("script" : Str)]), (("BadGame" : Str), GK.exc ["thing"]), (("BadPlaces" : Str), GK.exc ["thing"]), (("SlipError" : Str), GK.no), (("KEEPER" : Str), GK.cst (.str "keeper")), (("FOE" : Str), GK.cst (.str "foe"))]
noncomputable def calls : List (Str × (List PV → M PV)) := [(("is_integer" : Str), c_is_integer), (("is_from" : Str), c_is_from), (("is_between" : Str), c_is_between), (("is_tuple" : Str), c_is_tuple), (("is_word" : Str), c_is_word), (("do_ascend" : Str), c_do_ascend), (("are_moves" : Str), c_are_moves), (("is_slip" : Str), c_is_slip), (("are_slips" : Str), c_are_slips), (("is_place_row" : Str), c_is_place_row), (("is_game_value" : Str), c_is_game_value), (("need_game" : Str), c_need_game), (("is_place_of" : Str), c_is_place_of), (("need_places" : Str), c_need_places), (("marked" : Str), c_marked), (("stopped" : Str), c_stopped), (("safe_game" : Str), c_safe_game), (("reach_game" : Str), c_reach_game), (("again_game" : Str), c_again_game), (("seldom_game" : Str), c_seldom_game), (("_law_deck" : Str), c__law_deck), (("_law_draw" : Str), c__law_draw), (("_law_pick" : Str), c__law_pick), (("_law_some" : Str), c__law_some), (("_law_order" : Str), c__law_order), (("_law_renumbered" : Str), c__law_renumbered), (("_law_game" : Str), c__law_game), (("_law_subset" : Str), c__law_subset), (("_law_no_game" : Str), c__law_no_game), (("law" : Str), c_law)]
noncomputable def callX (f : Str) : List PV → M PV := (calls.lookup f).getD fun _ => M.stk
noncomputable def callsT : List (Str × (M PV → M PV)) := [(("_law_tried" : Str), t__law_tried)]
noncomputable def callTX (f : Str) : M PV → M PV := (callsT.lookup f).getD fun _ => M.stk
noncomputable def g2s : List (Str × (M PV → SS)) := [(("_law_tried" : Str), g__law_tried)]
noncomputable def g2X (f : Str) : M PV → SS := (g2s.lookup f).getD fun _ => sNil
def lvs : List (Str × Nat) := [(("is_integer" : Str), 0), (("is_from" : Str), 1), (("is_between" : Str), 1), (("is_tuple" : Str), 0), (("is_word" : Str), 0), (("do_ascend" : Str), 0), (("are_moves" : Str), 2), (("is_slip" : Str), 2), (("are_slips" : Str), 3), (("is_place_row" : Str), 4), (("is_game_value" : Str), 5), (("need_game" : Str), 6), (("is_place_of" : Str), 2), (("need_places" : Str), 7), (("marked" : Str), 0), (("stopped" : Str), 0), (("safe_game" : Str), 8), (("reach_game" : Str), 8), (("again_game" : Str), 8), (("seldom_game" : Str), 8), (("_law_deck" : Str), 0), (("_law_draw" : Str), 0), (("_law_pick" : Str), 1), (("_law_some" : Str), 1), (("_law_order" : Str), 1), (("_law_renumbered" : Str), 0), (("_law_game" : Str), 2), (("_law_subset" : Str), 1), (("_law_no_game" : Str), 2), (("_law_tried" : Str), 0), (("law" : Str), 11)]
def lvX (f : Str) : Nat := (lvs.lookup f).getD 0
def gns : List Str := [("_law_tried" : Str), ("law" : Str)]
def gnX (f : Str) : Bool := gns.any fun x => decide (x = f)
def kwsX : List (Str × List Str) := [(("reach_game" : Str), [("aims" : Str), ("game" : Str)]), (("seldom_game" : Str), [("bad" : Str), ("game" : Str)])]
def x_BadGame : Xd := ⟨"BadGame", "thing", "self", "thing", L2.inClass (top 2) 0⟩
def x_BadPlaces : Xd := ⟨"BadPlaces", "thing", "self", "thing", L2.inClass (top 3) 0⟩
noncomputable def pg : Pg := { tab := tab, call := callX, callT := callTX, g2 := g2X, lv := lvX, gn := gnX, kws := kwsX, xs := [x_BadGame, x_BadPlaces], subs := subs, cts := [("SlipError" : Str)] }
noncomputable def d_is_integer : Df := { name := "is_integer", st := top 7, ps := [("thing" : Str)], N := [("thing" : Str)], mu := [], k := 0, gd := false, keep := false, tr := false, lam := false, n := 60, m := m_is_integer }
noncomputable def d_is_from : Df := { name := "is_from", st := top 8, ps := [("thing" : Str), ("least" : Str)], N := [("thing" : Str), ("least" : Str)], mu := [], k := 1, gd := false, keep := false, tr := false, lam := false, n := 60, m := m_is_from }
noncomputable def d_is_between : Df := { name := "is_between", st := top 9, ps := [("thing" : Str), ("least" : Str), ("most" : Str)], N := [("thing" : Str), ("least" : Str), ("most" : Str)], mu := [], k := 1, gd := false, keep := false, tr := false, lam := false, n := 60, m := m_is_between }
noncomputable def d_is_tuple : Df := { name := "is_tuple", st := top 10, ps := [("thing" : Str), ("length" : Str)], N := [("thing" : Str), ("length" : Str)], mu := [], k := 0, gd := false, keep := false, tr := false, lam := false, n := 60, m := m_is_tuple }
noncomputable def d_is_word : Df := { name := "is_word", st := top 11, ps := [("thing" : Str), ("words" : Str)], N := [("thing" : Str), ("words" : Str)], mu := [], k := 0, gd := false, keep := false, tr := false, lam := false, n := 60, m := m_is_word }
noncomputable def d_do_ascend : Df := { name := "do_ascend", st := top 12, ps := [("items" : Str)], N := [("items" : Str), ("one" : Str), ("other" : Str)], mu := [], k := 0, gd := false, keep := false, tr := false, lam := false, n := 60, m := m_do_ascend }
noncomputable def d_are_moves : Df := { name := "are_moves", st := top 13, ps := [("thing" : Str), ("many" : Str)], N := [("thing" : Str), ("many" : Str), ("u" : Str)], mu := [], k := 2, gd := false, keep := false, tr := false, lam := false, n := 60, m := m_are_moves }
noncomputable def d_is_slip : Df := { name := "is_slip", st := top 14, ps := [("thing" : Str), ("many" : Str)], N := [("thing" : Str), ("many" : Str)], mu := [], k := 2, gd := false, keep := false, tr := false, lam := false, n := 60, m := m_is_slip }
noncomputable def d_are_slips : Df := { name := "are_slips", st := top 15, ps := [("thing" : Str), ("many" : Str)], N := [("thing" : Str), ("many" : Str), ("slip" : Str)], mu := [], k := 3, gd := false, keep := false, tr := false, lam := false, n := 60, m := m_are_slips }
noncomputable def d_is_place_row : Df := { name := "is_place_row", st := top 16, ps := [("thing" : Str), ("many" : Str)], N := [("thing" : Str), ("many" : Str)], mu := [], k := 4, gd := false, keep := false, tr := false, lam := false, n := 60, m := m_is_place_row }
noncomputable def d_is_game_value : Df := { name := "is_game_value", st := top 17, ps := [("thing" : Str)], N := [("thing" : Str), ("row" : Str)], mu := [], k := 5, gd := false, keep := false, tr := false, lam := false, n := 60, m := m_is_game_value }
noncomputable def d_need_game : Df := { name := "need_game", st := top 18, ps := [("game" : Str)], N := [("game" : Str)], mu := [], k := 6, gd := false, keep := false, tr := false, lam := false, n := 60, m := m_need_game }
noncomputable def d_is_place_of : Df := { name := "is_place_of", st := top 19, ps := [("game" : Str), ("thing" : Str)], N := [("game" : Str), ("thing" : Str)], mu := [], k := 2, gd := false, keep := false, tr := false, lam := false, n := 60, m := m_is_place_of }
noncomputable def d_need_places : Df := { name := "need_places", st := top 21, ps := [("game" : Str), ("chosen" : Str)], N := [("game" : Str), ("chosen" : Str), ("v" : Str)], mu := [], k := 7, gd := false, keep := false, tr := false, lam := false, n := 60, m := m_need_places }
noncomputable def d_marked : Df := { name := "marked", st := top 22, ps := [("game" : Str), ("chosen" : Str), ("mark" : Str), ("other" : Str)], N := [("game" : Str), ("chosen" : Str), ("mark" : Str), ("other" : Str), ("found" : Str), ("v" : Str), ("owner" : Str), ("old" : Str), ("moves" : Str), ("slips" : Str)], mu := [⟨56, 12, 56, 14⟩], k := 0, gd := false, keep := false, tr := false, lam := false, n := 60, m := m_marked }
noncomputable def d_stopped : Df := { name := "stopped", st := top 23, ps := [("game" : Str), ("chosen" : Str)], N := [("game" : Str), ("chosen" : Str), ("found" : Str), ("v" : Str), ("owner" : Str), ("mark" : Str), ("moves" : Str), ("slips" : Str)], mu := [⟨61, 12, 61, 14⟩], k := 0, gd := false, keep := false, tr := false, lam := false, n := 60, m := m_stopped }
noncomputable def d_safe_game : Df := { name := "safe_game", st := top 24, ps := [("game" : Str), ("bad" : Str)], N := [("game" : Str), ("bad" : Str)], mu := [], k := 8, gd := false, keep := false, tr := false, lam := false, n := 60, m := m_safe_game }
noncomputable def d_reach_game : Df := { name := "reach_game", st := top 25, ps := [("game" : Str), ("aims" : Str)], N := [("game" : Str), ("aims" : Str)], mu := [], k := 8, gd := false, keep := false, tr := false, lam := false, n := 60, m := m_reach_game }
noncomputable def d_again_game : Df := { name := "again_game", st := top 26, ps := [("game" : Str), ("aims" : Str)], N := [("game" : Str), ("aims" : Str)], mu := [], k := 8, gd := false, keep := false, tr := false, lam := false, n := 60, m := m_again_game }
noncomputable def d_seldom_game : Df := { name := "seldom_game", st := top 27, ps := [("game" : Str), ("bad" : Str)], N := [("game" : Str), ("bad" : Str)], mu := [], k := 8, gd := false, keep := false, tr := false, lam := false, n := 60, m := m_seldom_game }
noncomputable def d__law_deck : Df := { name := "_law_deck", st := top 29, ps := [("script" : Str)], N := [("script" : Str), ("mixed" : Str), ("cell" : Str)], mu := [⟨82, 11, 82, 73⟩, ⟨82, 21, 82, 44⟩], k := 0, gd := false, keep := true, tr := false, lam := false, n := 60, m := m__law_deck }
noncomputable def d__law_draw : Df := { name := "_law_draw", st := top 30, ps := [("deck" : Str), ("many" : Str)], N := [("deck" : Str), ("many" : Str), ("number" : Str), ("cell" : Str)], mu := [], k := 0, gd := false, keep := false, tr := false, lam := false, n := 60, m := m__law_draw }
noncomputable def d__law_pick : Df := { name := "_law_pick", st := top 31, ps := [("deck" : Str), ("some" : Str)], N := [("deck" : Str), ("some" : Str)], mu := [], k := 1, gd := false, keep := false, tr := false, lam := false, n := 60, m := m__law_pick }
noncomputable def d__law_some : Df := { name := "_law_some", st := top 32, ps := [("deck" : Str), ("n" : Str), ("most" : Str)], N := [("deck" : Str), ("n" : Str), ("most" : Str), ("turn" : Str)], mu := [], k := 1, gd := false, keep := false, tr := false, lam := false, n := 60, m := m__law_some }
noncomputable def d__law_order : Df := { name := "_law_order", st := top 34, ps := [("deck" : Str), ("n" : Str)], N := [("deck" : Str), ("n" : Str), ("left" : Str), ("found" : Str), ("turn" : Str)], mu := [⟨124, 19, 124, 33⟩, ⟨124, 35, 124, 37⟩], k := 1, gd := false, keep := false, tr := false, lam := false, n := 60, m := m__law_order }
noncomputable def d__law_renumbered : Df := { name := "_law_renumbered", st := top 35, ps := [("game" : Str), ("order" : Str)], N := [("game" : Str), ("order" : Str), ("spot" : Str), ("found" : Str), ("v" : Str), ("owner" : Str), ("mark" : Str), ("moves" : Str), ("slips" : Str), ("i" : Str), ("u" : Str), ("w" : Str)], mu := [⟨130, 12, 130, 14⟩], k := 0, gd := false, keep := false, tr := false, lam := false, n := 60, m := m__law_renumbered }
noncomputable def d__law_game : Df := { name := "_law_game", st := top 33, ps := [("deck" : Str), ("most" : Str), ("weight" : Str), ("slips" : Str)], N := [("deck" : Str), ("most" : Str), ("weight" : Str), ("slips" : Str), ("n" : Str), ("way" : Str), ("found" : Str), ("left" : Str), ("marks" : Str), ("v" : Str), ("owner" : Str), ("mark" : Str), ("moves" : Str), ("some" : Str), ("is_rung" : Str), ("back" : Str), ("slip" : Str), ("u" : Str)], mu := [⟨101, 123, 101, 125⟩, ⟨106, 46, 106, 48⟩], k := 2, gd := false, keep := false, tr := false, lam := false, n := 60, m := m__law_game }
noncomputable def d__law_subset : Df := { name := "_law_subset", st := top 36, ps := [("deck" : Str), ("n" : Str)], N := [("deck" : Str), ("n" : Str), ("v" : Str)], mu := [], k := 1, gd := false, keep := false, tr := false, lam := false, n := 60, m := m__law_subset }
noncomputable def d__law_no_game : Df := { name := "_law_no_game", st := top 37, ps := [("deck" : Str), ("game" : Str)], N := [("deck" : Str), ("game" : Str), ("owner" : Str), ("mark" : Str), ("moves" : Str), ("slips" : Str), ("n" : Str), ("some" : Str), ("odd" : Str), ("it" : Str)], mu := [], k := 2, gd := false, keep := false, tr := false, lam := false, n := 60, m := m__law_no_game }
noncomputable def d__law_tried : Df := { name := "_law_tried", st := top 38, ps := [("call" : Str)], N := [("call" : Str), ("e" : Str), ("kinds" : Str)], mu := [], k := 0, gd := true, keep := false, tr := true, lam := false, n := 60, m := sNil }
noncomputable def d_law : Df := { name := "law", st := top 39, ps := [("script" : Str)], N := [("script" : Str), ("deck" : Str), ("turn" : Str), ("game" : Str), ("n" : Str), ("is_game" : Str), ("is_lot" : Str), ("a" : Str), ("odd" : Str), ("some" : Str), ("due" : Str), ("told" : Str)], mu := [⟨163, 15, 163, 55⟩], k := 11, gd := true, keep := false, tr := false, lam := true, n := 60, m := m_law }
noncomputable def defs : List Df := [d_is_integer, d_is_from, d_is_between, d_is_tuple, d_is_word, d_do_ascend, d_are_moves, d_is_slip, d_are_slips, d_is_place_row, d_is_game_value, d_need_game, d_is_place_of, d_need_places, d_marked, d_stopped, d_safe_game, d_reach_game, d_again_game, d_seldom_game, d__law_deck, d__law_draw, d__law_pick, d__law_some, d__law_order, d__law_renumbered, d__law_game, d__law_subset, d__law_no_game, d_law]
noncomputable def hofs : List Df := [d__law_tried]
end K78
end HS
end
-- text k78b
section
set_option Elab.async false
set_option linter.all false
set_option maxRecDepth 100000
set_option maxHeartbeats 4000000
namespace HS
open PySem PySem.Spec PyProof.Rows
namespace K78
theorem den_is_integer : denSs 60 (pg.dc d_is_integer) (L2.defBody (top 7)) = some m_is_integer := by kernel_rfl
theorem bd_is_integer (kV doc pm : Value) (an : Option Addr) (cdv ct : Value) (us : List Value) (hl : us.length = 1) : bindArgs (d_is_integer.fnOf kV doc pm an cdv ct) ⟨us, []⟩ = pure (d_is_integer.ps.zip us) := by
  match us, hl with
  | [_], _ => rfl
theorem ok_is_integer : DefOk pg d_is_integer := ⟨by kernel_rfl, by kernel_rfl, by kernel_rfl, (fun z => nomatch z), fnScope_by (by decide +kernel), slots_by (by decide +kernel), (fun _ => rfl), den_is_integer, bd_is_integer, (fun ks ix h => absurd h (kw_no (by decide +kernel) ks)), by decide +kernel⟩
theorem den_is_from : denSs 60 (pg.dc d_is_from) (L2.defBody (top 8)) = some m_is_from := by kernel_rfl
theorem bd_is_from (kV doc pm : Value) (an : Option Addr) (cdv ct : Value) (us : List Value) (hl : us.length = 2) : bindArgs (d_is_from.fnOf kV doc pm an cdv ct) ⟨us, []⟩ = pure (d_is_from.ps.zip us) := by
  match us, hl with
  | [_, _], _ => rfl
theorem ok_is_from : DefOk pg d_is_from := ⟨by kernel_rfl, by kernel_rfl, by kernel_rfl, (fun z => nomatch z), fnScope_by (by decide +kernel), slots_by (by decide +kernel), (fun _ => rfl), den_is_from, bd_is_from, (fun ks ix h => absurd h (kw_no (by decide +kernel) ks)), by decide +kernel⟩
theorem den_is_between : denSs 60 (pg.dc d_is_between) (L2.defBody (top 9)) = some m_is_between := by kernel_rfl
theorem bd_is_between (kV doc pm : Value) (an : Option Addr) (cdv ct : Value) (us : List Value) (hl : us.length = 3) : bindArgs (d_is_between.fnOf kV doc pm an cdv ct) ⟨us, []⟩ = pure (d_is_between.ps.zip us) := by
  match us, hl with
  | [_, _, _], _ => rfl
theorem ok_is_between : DefOk pg d_is_between := ⟨by kernel_rfl, by kernel_rfl, by kernel_rfl, (fun z => nomatch z), fnScope_by (by decide +kernel), slots_by (by decide +kernel), (fun _ => rfl), den_is_between, bd_is_between, (fun ks ix h => absurd h (kw_no (by decide +kernel) ks)), by decide +kernel⟩
theorem den_is_tuple : denSs 60 (pg.dc d_is_tuple) (L2.defBody (top 10)) = some m_is_tuple := by kernel_rfl
theorem bd_is_tuple (kV doc pm : Value) (an : Option Addr) (cdv ct : Value) (us : List Value) (hl : us.length = 2) : bindArgs (d_is_tuple.fnOf kV doc pm an cdv ct) ⟨us, []⟩ = pure (d_is_tuple.ps.zip us) := by
  match us, hl with
  | [_, _], _ => rfl
theorem ok_is_tuple : DefOk pg d_is_tuple := ⟨by kernel_rfl, by kernel_rfl, by kernel_rfl, (fun z => nomatch z), fnScope_by (by decide +kernel), slots_by (by decide +kernel), (fun _ => rfl), den_is_tuple, bd_is_tuple, (fun ks ix h => absurd h (kw_no (by decide +kernel) ks)), by decide +kernel⟩
theorem den_is_word : denSs 60 (pg.dc d_is_word) (L2.defBody (top 11)) = some m_is_word := by kernel_rfl
theorem bd_is_word (kV doc pm : Value) (an : Option Addr) (cdv ct : Value) (us : List Value) (hl : us.length = 2) : bindArgs (d_is_word.fnOf kV doc pm an cdv ct) ⟨us, []⟩ = pure (d_is_word.ps.zip us) := by
  match us, hl with
  | [_, _], _ => rfl
theorem ok_is_word : DefOk pg d_is_word := ⟨by kernel_rfl, by kernel_rfl, by kernel_rfl, (fun z => nomatch z), fnScope_by (by decide +kernel), slots_by (by decide +kernel), (fun _ => rfl), den_is_word, bd_is_word, (fun ks ix h => absurd h (kw_no (by decide +kernel) ks)), by decide +kernel⟩
theorem den_do_ascend : denSs 60 (pg.dc d_do_ascend) (L2.defBody (top 12)) = some m_do_ascend := by kernel_rfl
theorem bd_do_ascend (kV doc pm : Value) (an : Option Addr) (cdv ct : Value) (us : List Value) (hl : us.length = 1) : bindArgs (d_do_ascend.fnOf kV doc pm an cdv ct) ⟨us, []⟩ = pure (d_do_ascend.ps.zip us) := by
  match us, hl with
  | [_], _ => rfl
theorem ok_do_ascend : DefOk pg d_do_ascend := ⟨by kernel_rfl, by kernel_rfl, by kernel_rfl, (fun z => nomatch z), fnScope_by (by decide +kernel), slots_by (by decide +kernel), (fun _ => rfl), den_do_ascend, bd_do_ascend, (fun ks ix h => absurd h (kw_no (by decide +kernel) ks)), by decide +kernel⟩
theorem den_are_moves : denSs 60 (pg.dc d_are_moves) (L2.defBody (top 13)) = some m_are_moves := by kernel_rfl
theorem bd_are_moves (kV doc pm : Value) (an : Option Addr) (cdv ct : Value) (us : List Value) (hl : us.length = 2) : bindArgs (d_are_moves.fnOf kV doc pm an cdv ct) ⟨us, []⟩ = pure (d_are_moves.ps.zip us) := by
  match us, hl with
  | [_, _], _ => rfl
theorem ok_are_moves : DefOk pg d_are_moves := ⟨by kernel_rfl, by kernel_rfl, by kernel_rfl, (fun z => nomatch z), fnScope_by (by decide +kernel), slots_by (by decide +kernel), (fun _ => rfl), den_are_moves, bd_are_moves, (fun ks ix h => absurd h (kw_no (by decide +kernel) ks)), by decide +kernel⟩
theorem den_is_slip : denSs 60 (pg.dc d_is_slip) (L2.defBody (top 14)) = some m_is_slip := by kernel_rfl
theorem bd_is_slip (kV doc pm : Value) (an : Option Addr) (cdv ct : Value) (us : List Value) (hl : us.length = 2) : bindArgs (d_is_slip.fnOf kV doc pm an cdv ct) ⟨us, []⟩ = pure (d_is_slip.ps.zip us) := by
  match us, hl with
  | [_, _], _ => rfl
theorem ok_is_slip : DefOk pg d_is_slip := ⟨by kernel_rfl, by kernel_rfl, by kernel_rfl, (fun z => nomatch z), fnScope_by (by decide +kernel), slots_by (by decide +kernel), (fun _ => rfl), den_is_slip, bd_is_slip, (fun ks ix h => absurd h (kw_no (by decide +kernel) ks)), by decide +kernel⟩
theorem den_are_slips : denSs 60 (pg.dc d_are_slips) (L2.defBody (top 15)) = some m_are_slips := by kernel_rfl
theorem bd_are_slips (kV doc pm : Value) (an : Option Addr) (cdv ct : Value) (us : List Value) (hl : us.length = 2) : bindArgs (d_are_slips.fnOf kV doc pm an cdv ct) ⟨us, []⟩ = pure (d_are_slips.ps.zip us) := by
  match us, hl with
  | [_, _], _ => rfl
theorem ok_are_slips : DefOk pg d_are_slips := ⟨by kernel_rfl, by kernel_rfl, by kernel_rfl, (fun z => nomatch z), fnScope_by (by decide +kernel), slots_by (by decide +kernel), (fun _ => rfl), den_are_slips, bd_are_slips, (fun ks ix h => absurd h (kw_no (by decide +kernel) ks)), by decide +kernel⟩
theorem den_is_place_row : denSs 60 (pg.dc d_is_place_row) (L2.defBody (top 16)) = some m_is_place_row := by kernel_rfl
theorem bd_is_place_row (kV doc pm : Value) (an : Option Addr) (cdv ct : Value) (us : List Value) (hl : us.length = 2) : bindArgs (d_is_place_row.fnOf kV doc pm an cdv ct) ⟨us, []⟩ = pure (d_is_place_row.ps.zip us) := by
  match us, hl with
  | [_, _], _ => rfl
theorem ok_is_place_row : DefOk pg d_is_place_row := ⟨by kernel_rfl, by kernel_rfl, by kernel_rfl, (fun z => nomatch z), fnScope_by (by decide +kernel), slots_by (by decide +kernel), (fun _ => rfl), den_is_place_row, bd_is_place_row, (fun ks ix h => absurd h (kw_no (by decide +kernel) ks)), by decide +kernel⟩
theorem den_is_game_value : denSs 60 (pg.dc d_is_game_value) (L2.defBody (top 17)) = some m_is_game_value := by kernel_rfl
theorem bd_is_game_value (kV doc pm : Value) (an : Option Addr) (cdv ct : Value) (us : List Value) (hl : us.length = 1) : bindArgs (d_is_game_value.fnOf kV doc pm an cdv ct) ⟨us, []⟩ = pure (d_is_game_value.ps.zip us) := by
  match us, hl with
  | [_], _ => rfl
theorem ok_is_game_value : DefOk pg d_is_game_value := ⟨by kernel_rfl, by kernel_rfl, by kernel_rfl, (fun z => nomatch z), fnScope_by (by decide +kernel), slots_by (by decide +kernel), (fun _ => rfl), den_is_game_value, bd_is_game_value, (fun ks ix h => absurd h (kw_no (by decide +kernel) ks)), by decide +kernel⟩
theorem den_need_game : denSs 60 (pg.dc d_need_game) (L2.defBody (top 18)) = some m_need_game := by kernel_rfl
theorem bd_need_game (kV doc pm : Value) (an : Option Addr) (cdv ct : Value) (us : List Value) (hl : us.length = 1) : bindArgs (d_need_game.fnOf kV doc pm an cdv ct) ⟨us, []⟩ = pure (d_need_game.ps.zip us) := by
  match us, hl with
  | [_], _ => rfl
theorem ok_need_game : DefOk pg d_need_game := ⟨by kernel_rfl, by kernel_rfl, by kernel_rfl, (fun z => nomatch z), fnScope_by (by decide +kernel), slots_by (by decide +kernel), (fun _ => rfl), den_need_game, bd_need_game, (fun ks ix h => absurd h (kw_no (by decide +kernel) ks)), by decide +kernel⟩
theorem den_is_place_of : denSs 60 (pg.dc d_is_place_of) (L2.defBody (top 19)) = some m_is_place_of := by kernel_rfl
theorem bd_is_place_of (kV doc pm : Value) (an : Option Addr) (cdv ct : Value) (us : List Value) (hl : us.length = 2) : bindArgs (d_is_place_of.fnOf kV doc pm an cdv ct) ⟨us, []⟩ = pure (d_is_place_of.ps.zip us) := by
  match us, hl with
  | [_, _], _ => rfl
theorem ok_is_place_of : DefOk pg d_is_place_of := ⟨by kernel_rfl, by kernel_rfl, by kernel_rfl, (fun z => nomatch z), fnScope_by (by decide +kernel), slots_by (by decide +kernel), (fun _ => rfl), den_is_place_of, bd_is_place_of, (fun ks ix h => absurd h (kw_no (by decide +kernel) ks)), by decide +kernel⟩
theorem den_need_places : denSs 60 (pg.dc d_need_places) (L2.defBody (top 21)) = some m_need_places := by kernel_rfl
theorem bd_need_places (kV doc pm : Value) (an : Option Addr) (cdv ct : Value) (us : List Value) (hl : us.length = 2) : bindArgs (d_need_places.fnOf kV doc pm an cdv ct) ⟨us, []⟩ = pure (d_need_places.ps.zip us) := by
  match us, hl with
  | [_, _], _ => rfl
theorem ok_need_places : DefOk pg d_need_places := ⟨by kernel_rfl, by kernel_rfl, by kernel_rfl, (fun z => nomatch z), fnScope_by (by decide +kernel), slots_by (by decide +kernel), (fun _ => rfl), den_need_places, bd_need_places, (fun ks ix h => absurd h (kw_no (by decide +kernel) ks)), by decide +kernel⟩
theorem den_marked : denSs 60 (pg.dc d_marked) (L2.defBody (top 22)) = some m_marked := by kernel_rfl
theorem bd_marked (kV doc pm : Value) (an : Option Addr) (cdv ct : Value) (us : List Value) (hl : us.length = 4) : bindArgs (d_marked.fnOf kV doc pm an cdv ct) ⟨us, []⟩ = pure (d_marked.ps.zip us) := by
  match us, hl with
  | [_, _, _, _], _ => rfl
theorem ok_marked : DefOk pg d_marked := ⟨by kernel_rfl, by kernel_rfl, by kernel_rfl, (fun z => nomatch z), fnScope_by (by decide +kernel), slots_by (by decide +kernel), (fun _ => rfl), den_marked, bd_marked, (fun ks ix h => absurd h (kw_no (by decide +kernel) ks)), by decide +kernel⟩
theorem den_stopped : denSs 60 (pg.dc d_stopped) (L2.defBody (top 23)) = some m_stopped := by kernel_rfl
theorem bd_stopped (kV doc pm : Value) (an : Option Addr) (cdv ct : Value) (us : List Value) (hl : us.length = 2) : bindArgs (d_stopped.fnOf kV doc pm an cdv ct) ⟨us, []⟩ = pure (d_stopped.ps.zip us) := by
  match us, hl with
  | [_, _], _ => rfl
theorem ok_stopped : DefOk pg d_stopped := ⟨by kernel_rfl, by kernel_rfl, by kernel_rfl, (fun z => nomatch z), fnScope_by (by decide +kernel), slots_by (by decide +kernel), (fun _ => rfl), den_stopped, bd_stopped, (fun ks ix h => absurd h (kw_no (by decide +kernel) ks)), by decide +kernel⟩
theorem den_safe_game : denSs 60 (pg.dc d_safe_game) (L2.defBody (top 24)) = some m_safe_game := by kernel_rfl
theorem bd_safe_game (kV doc pm : Value) (an : Option Addr) (cdv ct : Value) (us : List Value) (hl : us.length = 2) : bindArgs (d_safe_game.fnOf kV doc pm an cdv ct) ⟨us, []⟩ = pure (d_safe_game.ps.zip us) := by
  match us, hl with
  | [_, _], _ => rfl
theorem ok_safe_game : DefOk pg d_safe_game := ⟨by kernel_rfl, by kernel_rfl, by kernel_rfl, (fun z => nomatch z), fnScope_by (by decide +kernel), slots_by (by decide +kernel), (fun _ => rfl), den_safe_game, bd_safe_game, (fun ks ix h => absurd h (kw_no (by decide +kernel) ks)), by decide +kernel⟩
theorem den_reach_game : denSs 60 (pg.dc d_reach_game) (L2.defBody (top 25)) = some m_reach_game := by kernel_rfl
theorem bd_reach_game (kV doc pm : Value) (an : Option Addr) (cdv ct : Value) (us : List Value) (hl : us.length = 2) : bindArgs (d_reach_game.fnOf kV doc pm an cdv ct) ⟨us, []⟩ = pure (d_reach_game.ps.zip us) := by
  match us, hl with
  | [_, _], _ => rfl
theorem kw_reach_game (ks : List Str) (ix : List Nat) (h : kwsX.contains ("reach_game", ks) = true) (h2 : kwOrder d_reach_game.ps ks = some ix) (kV doc pm : Value) (an : Option Addr) (cdv ct : Value) (ws : List Value) (hl : ws.length = ks.length) : bindArgs (d_reach_game.fnOf kV doc pm an cdv ct) ⟨[], ks.zip ws⟩ = pure (d_reach_game.ps.zip (pick ix ws)) := by
  obtain rfl := kw_one (k := [("aims" : Str), ("game" : Str)]) (by decide +kernel) h
  obtain rfl : [1, 0] = ix := Option.some.inj ((show kwOrder d_reach_game.ps [("aims" : Str), ("game" : Str)] = some [1, 0] by decide +kernel).symm.trans h2)
  match ws, hl with
  | [_, _], _ => rfl
theorem ok_reach_game : DefOk pg d_reach_game := ⟨by kernel_rfl, by kernel_rfl, by kernel_rfl, (fun z => nomatch z), fnScope_by (by decide +kernel), slots_by (by decide +kernel), (fun _ => rfl), den_reach_game, bd_reach_game, kw_reach_game, by decide +kernel⟩
theorem den_again_game : denSs 60 (pg.dc d_again_game) (L2.defBody (top 26)) = some m_again_game := by kernel_rfl
theorem bd_again_game (kV doc pm : Value) (an : Option Addr) (cdv ct : Value) (us : List Value) (hl : us.length = 2) : bindArgs (d_again_game.fnOf kV doc pm an cdv ct) ⟨us, []⟩ = pure (d_again_game.ps.zip us) := by
  match us, hl with
  | [_, _], _ => rfl
theorem ok_again_game : DefOk pg d_again_game := ⟨by kernel_rfl, by kernel_rfl, by kernel_rfl, (fun z => nomatch z), fnScope_by (by decide +kernel), slots_by (by decide +kernel), (fun _ => rfl), den_again_game, bd_again_game, (fun ks ix h => absurd h (kw_no (by decide +kernel) ks)), by decide +kernel⟩
theorem den_seldom_game : denSs 60 (pg.dc d_seldom_game) (L2.defBody (top 27)) = some m_seldom_game := by kernel_rfl
theorem bd_seldom_game (kV doc pm : Value) (an : Option Addr) (cdv ct : Value) (us : List Value) (hl : us.length = 2) : bindArgs (d_seldom_game.fnOf kV doc pm an cdv ct) ⟨us, []⟩ = pure (d_seldom_game.ps.zip us) := by
  match us, hl with
  | [_, _], _ => rfl
theorem kw_seldom_game (ks : List Str) (ix : List Nat) (h : kwsX.contains ("seldom_game", ks) = true) (h2 : kwOrder d_seldom_game.ps ks = some ix) (kV doc pm : Value) (an : Option Addr) (cdv ct : Value) (ws : List Value) (hl : ws.length = ks.length) : bindArgs (d_seldom_game.fnOf kV doc pm an cdv ct) ⟨[], ks.zip ws⟩ = pure (d_seldom_game.ps.zip (pick ix ws)) := by
  obtain rfl := kw_one (k := [("bad" : Str), ("game" : Str)]) (by decide +kernel) h
  obtain rfl : [1, 0] = ix := Option.some.inj ((show kwOrder d_seldom_game.ps [("bad" : Str), ("game" : Str)] = some [1, 0] by decide +kernel).symm.trans h2)
  match ws, hl with
  | [_, _], _ => rfl
theorem ok_seldom_game : DefOk pg d_seldom_game := ⟨by kernel_rfl, by kernel_rfl, by kernel_rfl, (fun z => nomatch z), fnScope_by (by decide +kernel), slots_by (by decide +kernel), (fun _ => rfl), den_seldom_game, bd_seldom_game, kw_seldom_game, by decide +kernel⟩
theorem den__law_deck : denSs 60 (pg.dc d__law_deck) (L2.defBody (top 29)) = some m__law_deck := by kernel_rfl
theorem bd__law_deck (kV doc pm : Value) (an : Option Addr) (cdv ct : Value) (us : List Value) (hl : us.length = 1) : bindArgs (d__law_deck.fnOf kV doc pm an cdv ct) ⟨us, []⟩ = pure (d__law_deck.ps.zip us) := by
  match us, hl with
  | [_], _ => rfl
theorem ok__law_deck : DefOk pg d__law_deck := ⟨by kernel_rfl, by kernel_rfl, by kernel_rfl, (fun z => nomatch z), fnScope_by (by decide +kernel), slots_by (by decide +kernel), (fun _ => rfl), den__law_deck, bd__law_deck, (fun ks ix h => absurd h (kw_no (by decide +kernel) ks)), by decide +kernel⟩
theorem den__law_draw : denSs 60 (pg.dc d__law_draw) (L2.defBody (top 30)) = some m__law_draw := by kernel_rfl
theorem bd__law_draw (kV doc pm : Value) (an : Option Addr) (cdv ct : Value) (us : List Value) (hl : us.length = 2) : bindArgs (d__law_draw.fnOf kV doc pm an cdv ct) ⟨us, []⟩ = pure (d__law_draw.ps.zip us) := by
  match us, hl with
  | [_, _], _ => rfl
theorem ok__law_draw : DefOk pg d__law_draw := ⟨by kernel_rfl, by kernel_rfl, by kernel_rfl, (fun z => nomatch z), fnScope_by (by decide +kernel), slots_by (by decide +kernel), (fun _ => rfl), den__law_draw, bd__law_draw, (fun ks ix h => absurd h (kw_no (by decide +kernel) ks)), by decide +kernel⟩
theorem den__law_pick : denSs 60 (pg.dc d__law_pick) (L2.defBody (top 31)) = some m__law_pick := by kernel_rfl
theorem bd__law_pick (kV doc pm : Value) (an : Option Addr) (cdv ct : Value) (us : List Value) (hl : us.length = 2) : bindArgs (d__law_pick.fnOf kV doc pm an cdv ct) ⟨us, []⟩ = pure (d__law_pick.ps.zip us) := by
  match us, hl with
  | [_, _], _ => rfl
theorem ok__law_pick : DefOk pg d__law_pick := ⟨by kernel_rfl, by kernel_rfl, by kernel_rfl, (fun z => nomatch z), fnScope_by (by decide +kernel), slots_by (by decide +kernel), (fun _ => rfl), den__law_pick, bd__law_pick, (fun ks ix h => absurd h (kw_no (by decide +kernel) ks)), by decide +kernel⟩
theorem den__law_some : denSs 60 (pg.dc d__law_some) (L2.defBody (top 32)) = some m__law_some := by kernel_rfl
theorem bd__law_some (kV doc pm : Value) (an : Option Addr) (cdv ct : Value) (us : List Value) (hl : us.length = 3) : bindArgs (d__law_some.fnOf kV doc pm an cdv ct) ⟨us, []⟩ = pure (d__law_some.ps.zip us) := by
  match us, hl with
  | [_, _, _], _ => rfl
theorem ok__law_some : DefOk pg d__law_some := ⟨by kernel_rfl, by kernel_rfl, by kernel_rfl, (fun z => nomatch z), fnScope_by (by decide +kernel), slots_by (by decide +kernel), (fun _ => rfl), den__law_some, bd__law_some, (fun ks ix h => absurd h (kw_no (by decide +kernel) ks)), by decide +kernel⟩
theorem den__law_order : denSs 60 (pg.dc d__law_order) (L2.defBody (top 34)) = some m__law_order := by kernel_rfl
theorem bd__law_order (kV doc pm : Value) (an : Option Addr) (cdv ct : Value) (us : List Value) (hl : us.length = 2) : bindArgs (d__law_order.fnOf kV doc pm an cdv ct) ⟨us, []⟩ = pure (d__law_order.ps.zip us) := by
  match us, hl with
  | [_, _], _ => rfl
theorem ok__law_order : DefOk pg d__law_order := ⟨by kernel_rfl, by kernel_rfl, by kernel_rfl, (fun z => nomatch z), fnScope_by (by decide +kernel), slots_by (by decide +kernel), (fun _ => rfl), den__law_order, bd__law_order, (fun ks ix h => absurd h (kw_no (by decide +kernel) ks)), by decide +kernel⟩
theorem den__law_renumbered : denSs 60 (pg.dc d__law_renumbered) (L2.defBody (top 35)) = some m__law_renumbered := by kernel_rfl
theorem bd__law_renumbered (kV doc pm : Value) (an : Option Addr) (cdv ct : Value) (us : List Value) (hl : us.length = 2) : bindArgs (d__law_renumbered.fnOf kV doc pm an cdv ct) ⟨us, []⟩ = pure (d__law_renumbered.ps.zip us) := by
  match us, hl with
  | [_, _], _ => rfl
theorem ok__law_renumbered : DefOk pg d__law_renumbered := ⟨by kernel_rfl, by kernel_rfl, by kernel_rfl, (fun z => nomatch z), fnScope_by (by decide +kernel), slots_by (by decide +kernel), (fun _ => rfl), den__law_renumbered, bd__law_renumbered, (fun ks ix h => absurd h (kw_no (by decide +kernel) ks)), by decide +kernel⟩
theorem den__law_game : denSs 60 (pg.dc d__law_game) (L2.defBody (top 33)) = some m__law_game := by kernel_rfl
theorem bd__law_game (kV doc pm : Value) (an : Option Addr) (cdv ct : Value) (us : List Value) (hl : us.length = 4) : bindArgs (d__law_game.fnOf kV doc pm an cdv ct) ⟨us, []⟩ = pure (d__law_game.ps.zip us) := by
  match us, hl with
  | [_, _, _, _], _ => rfl
theorem ok__law_game : DefOk pg d__law_game := ⟨by kernel_rfl, by kernel_rfl, by kernel_rfl, (fun z => nomatch z), fnScope_by (by decide +kernel), slots_by (by decide +kernel), (fun _ => rfl), den__law_game, bd__law_game, (fun ks ix h => absurd h (kw_no (by decide +kernel) ks)), by decide +kernel⟩
theorem den__law_subset : denSs 60 (pg.dc d__law_subset) (L2.defBody (top 36)) = some m__law_subset := by kernel_rfl
theorem bd__law_subset (kV doc pm : Value) (an : Option Addr) (cdv ct : Value) (us : List Value) (hl : us.length = 2) : bindArgs (d__law_subset.fnOf kV doc pm an cdv ct) ⟨us, []⟩ = pure (d__law_subset.ps.zip us) := by
  match us, hl with
  | [_, _], _ => rfl
theorem ok__law_subset : DefOk pg d__law_subset := ⟨by kernel_rfl, by kernel_rfl, by kernel_rfl, (fun z => nomatch z), fnScope_by (by decide +kernel), slots_by (by decide +kernel), (fun _ => rfl), den__law_subset, bd__law_subset, (fun ks ix h => absurd h (kw_no (by decide +kernel) ks)), by decide +kernel⟩
theorem den__law_no_game : denSs 60 (pg.dc d__law_no_game) (L2.defBody (top 37)) = some m__law_no_game := by kernel_rfl
theorem bd__law_no_game (kV doc pm : Value) (an : Option Addr) (cdv ct : Value) (us : List Value) (hl : us.length = 2) : bindArgs (d__law_no_game.fnOf kV doc pm an cdv ct) ⟨us, []⟩ = pure (d__law_no_game.ps.zip us) := by
  match us, hl with
  | [_, _], _ => rfl
theorem ok__law_no_game : DefOk pg d__law_no_game := ⟨by kernel_rfl, by kernel_rfl, by kernel_rfl, (fun z => nomatch z), fnScope_by (by decide +kernel), slots_by (by decide +kernel), (fun _ => rfl), den__law_no_game, bd__law_no_game, (fun ks ix h => absurd h (kw_no (by decide +kernel) ks)), by decide +kernel⟩
theorem den_law : denSs 60 (pg.dc d_law) (L2.defBody (top 39)) = some m_law := by kernel_rfl
theorem bd_law (kV doc pm : Value) (an : Option Addr) (cdv ct : Value) (us : List Value) (hl : us.length = 1) : bindArgs (d_law.fnOf kV doc pm an cdv ct) ⟨us, []⟩ = pure (d_law.ps.zip us) := by
  match us, hl with
  | [_], _ => rfl
theorem ok_law : DefOk pg d_law := ⟨by kernel_rfl, by kernel_rfl, by kernel_rfl, (fun _ => by kernel_rfl), fnScope_by (by decide +kernel), slots_by (by decide +kernel), (fun z => nomatch z), den_law, bd_law, (fun ks ix h => absurd h (kw_no (by decide +kernel) ks)), by decide +kernel⟩
theorem bd__law_tried (kV doc pm : Value) (an : Option Addr) (cdv ct : Value) (us : List Value) (hl : us.length = 1) : bindArgs (d__law_tried.fnOf kV doc pm an cdv ct) ⟨us, []⟩ = pure (d__law_tried.ps.zip us) := by
  match us, hl with
  | [_], _ => rfl
theorem den__law_tried (m : M PV) : denSs 60 { pg.dc d__law_tried with cb := some ("call", m) } (L2.defBody (top 38)) = some (g__law_tried m) := by kernel_rfl
theorem ok__law_tried : HfOk pg d__law_tried := ⟨⟨"call", by kernel_rfl, by kernel_rfl, vis_by (by decide +kernel), by decide +kernel, by decide +kernel, den__law_tried⟩, by kernel_rfl, fnScope_by (by decide +kernel), slots_by (by decide +kernel), by kernel_rfl, bd__law_tried, by decide +kernel⟩
theorem ok_BadGame : XdOk pg x_BadGame := ⟨by kernel_rfl, fnScope_by (by decide +kernel), slots_by (by decide +kernel), ⟨_, _, _, _, rfl⟩, (fun kV doc pm an cdv ct us hl => match us, hl with | [_, _], _ => rfl), by decide +kernel⟩
theorem ok_BadPlaces : XdOk pg x_BadPlaces := ⟨by kernel_rfl, fnScope_by (by decide +kernel), slots_by (by decide +kernel), ⟨_, _, _, _, rfl⟩, (fun kV doc pm an cdv ct us hl => match us, hl with | [_, _], _ => rfl), by decide +kernel⟩
end K78
end HS
end
-- text k78h
section
set_option Elab.async false
set_option linter.all false
set_option maxRecDepth 100000
set_option maxHeartbeats 0
namespace HS
open PySem PySem.Spec PyProof.Rows
namespace K78
theorem tabs_ok : tabsB pg.tab (defs.map fun d => (d.name, d.ps)) (hofs.map (·.name)) (pg.xs.map fun x => (x.name, x.f)) = true := by decide +kernel
theorem top_ok : topB (defs.map fun d => (d.k, d.lam, d.gd, d.name)) (hofs.map (·.k)) = true := by decide +kernel
theorem pg_ok : PgOk pg defs hofs := by
  refine pgOk_by tabs_ok top_ok (by decide +kernel) (by decide +kernel) ?_ ?_ ?_
  · intro d h
    have h : d ∈ [d_is_integer, d_is_from, d_is_between, d_is_tuple, d_is_word, d_do_ascend, d_are_moves, d_is_slip, d_are_slips, d_is_place_row, d_is_game_value, d_need_game, d_is_place_of, d_need_places, d_marked, d_stopped, d_safe_game, d_reach_game, d_again_game, d_seldom_game, d__law_deck, d__law_draw, d__law_pick, d__law_some, d__law_order, d__law_renumbered, d__law_game, d__law_subset, d__law_no_game, d_law] := h
    rcases List.mem_cons.mp h with rfl | h
    · exact ok_is_integer
    rcases List.mem_cons.mp h with rfl | h
    · exact ok_is_from
    rcases List.mem_cons.mp h with rfl | h
    · exact ok_is_between
    rcases List.mem_cons.mp h with rfl | h
    · exact ok_is_tuple
    rcases List.mem_cons.mp h with rfl | h
    · exact ok_is_word
    rcases List.mem_cons.mp h with rfl | h
    · exact ok_do_ascend
    rcases List.mem_cons.mp h with rfl | h
    · exact ok_are_moves
    rcases List.mem_cons.mp h with rfl | h
    · exact ok_is_slip
    rcases List.mem_cons.mp h with rfl | h
    · exact ok_are_slips
    rcases List.mem_cons.mp h with rfl | h
    · exact ok_is_place_row
    rcases List.mem_cons.mp h with rfl | h
    · exact ok_is_game_value
    rcases List.mem_cons.mp h with rfl | h
    · exact ok_need_game
    rcases List.mem_cons.mp h with rfl | h
    · exact ok_is_place_of
    rcases List.mem_cons.mp h with rfl | h
    · exact ok_need_places
    rcases List.mem_cons.mp h with rfl | h
    · exact ok_marked
    rcases List.mem_cons.mp h with rfl | h
    · exact ok_stopped
    rcases List.mem_cons.mp h with rfl | h
    · exact ok_safe_game
    rcases List.mem_cons.mp h with rfl | h
    · exact ok_reach_game
    rcases List.mem_cons.mp h with rfl | h
    · exact ok_again_game
    rcases List.mem_cons.mp h with rfl | h
    · exact ok_seldom_game
    rcases List.mem_cons.mp h with rfl | h
    · exact ok__law_deck
    rcases List.mem_cons.mp h with rfl | h
    · exact ok__law_draw
    rcases List.mem_cons.mp h with rfl | h
    · exact ok__law_pick
    rcases List.mem_cons.mp h with rfl | h
    · exact ok__law_some
    rcases List.mem_cons.mp h with rfl | h
    · exact ok__law_order
    rcases List.mem_cons.mp h with rfl | h
    · exact ok__law_renumbered
    rcases List.mem_cons.mp h with rfl | h
    · exact ok__law_game
    rcases List.mem_cons.mp h with rfl | h
    · exact ok__law_subset
    rcases List.mem_cons.mp h with rfl | h
    · exact ok__law_no_game
    rcases List.mem_cons.mp h with rfl | h
    · exact ok_law
    exact absurd h (by simp)
  · intro d h
    have h : d ∈ [d__law_tried] := h
    rcases List.mem_cons.mp h with rfl | h
    · exact ok__law_tried
    exact absurd h (by simp)
  · intro d h
    have h : d ∈ [x_BadGame, x_BadPlaces] := h
    rcases List.mem_cons.mp h with rfl | h
    · exact ok_BadGame
    rcases List.mem_cons.mp h with rfl | h
    · exact ok_BadPlaces
    exact absurd h (by simp)
abbrev R : PySem.W.OpenRow := PySem.W.OpenLaw.row PySem.Challenge.rw_howmanyslips_k78_refusals_of_goals
def loose0 : List Str := [("SlipError" : Str), ("BadGame" : Str), ("BadPlaces" : Str), ("KEEPER" : Str), ("FOE" : Str), ("is_integer" : Str), ("is_from" : Str), ("is_between" : Str), ("is_tuple" : Str), ("is_word" : Str), ("do_ascend" : Str), ("are_moves" : Str), ("is_slip" : Str), ("are_slips" : Str), ("is_place_row" : Str), ("is_game_value" : Str), ("need_game" : Str), ("is_place_of" : Str), ("need_places" : Str), ("marked" : Str), ("stopped" : Str), ("safe_game" : Str), ("reach_game" : Str), ("again_game" : Str), ("seldom_game" : Str), ("_law_deck" : Str), ("_law_draw" : Str), ("_law_pick" : Str), ("_law_some" : Str), ("_law_game" : Str), ("_law_order" : Str), ("_law_renumbered" : Str), ("_law_subset" : Str), ("_law_no_game" : Str), ("_law_tried" : Str)]
def loose : List Str := loose0
noncomputable abbrev hk : PySem.W.Hook := He.hookX 5 (pg.fa defs hofs) (pg.fn defs hofs) [] (tfOf defs) pg.ex
noncomputable def ob (s : PySem.W.SharedT) : He.AlX := He.obsX 5 (pg.fa defs hofs) (pg.fn defs hofs) [] (tfOf defs) pg.ex (HandSHeadRun.getT s)
theorem ob_eq (s : PySem.W.SharedT) : ob s = hk.obs s.abs := He.obsX_eq (HandSHeadRun.getT_eq s)
theorem run (w : World) : HandSHeadRun.RunEq R (PySem.W.view R.prog [39]) hk ob 15000 loose w := by
  intro os
  kernel_rfl
end K78
end HS
end
-- text EvWp
section
set_option Elab.async false
set_option linter.all false
set_option maxRecDepth 100000

/-! Plain reasoning about meanings: what a run gives. -/
namespace HS
open PySem
/-- the same, told as a step of its own -/
theorem nd {α : Sort _} {a b : α} (h : a = b) : a = b := h
/-- a run ends with a value, of which Q -/
def wp {α : Type} (r : Res α) (Q : α → Hv → Prop) : Prop := match r with
  | .ok a h => Q a h
  | _ => False
/-- a statement's run ends without an exception, a break, a continue -/
def wps (r : SR) (N : Sg → Hv → Prop) (R : PV → Hv → Prop) : Prop := match r with
  | .nx σ h => N σ h
  | .ret v h => R v h
  | _ => False
section
variable {α β : Type} {h : Hv} {σ : Sg}
@[simp] theorem wp_ok {a : α} {Q : α → Hv → Prop} : wp (.ok a h) Q = Q a h := nd rfl
@[simp] theorem wp_stuck {Q : α → Hv → Prop} : wp (.stuck : Res α) Q = False := nd rfl
@[simp] theorem wp_stk {Q : α → Hv → Prop} : wp (M.stk h : Res α) Q = False := nd rfl
theorem wp.mono {r : Res α} {Q Q' : α → Hv → Prop} (p : wp r Q) (i : ∀ a h, Q a h → Q' a h) : wp r Q' := by
  cases r with
  | ok a h => exact i a h p
  | _ => exact p
theorem wp.eq {r : Res α} {Q : α → Hv → Prop} (p : wp r Q) : ∃ a h, r = .ok a h ∧ Q a h := by
  cases r with
  | ok a h => exact ⟨a, h, rfl, p⟩
  | exc _ _ => exact p.elim
  | stuck => exact p.elim
@[simp] theorem wp_ret {a : α} {Q : α → Hv → Prop} : wp (M.ret a h) Q = Q a h := nd rfl
@[simp] theorem wp_bnd {x : M α} {f : α → M β} {Q : β → Hv → Prop} : wp ((x.bnd f) h) Q = wp (x h) fun a h' => wp (f a h') Q := by
  unfold M.bnd
  cases x h <;> rfl
@[simp] theorem wp_ofO {a : α} {Q : α → Hv → Prop} : wp (M.ofO (some a) h) Q = Q a h := nd rfl
@[simp] theorem wp_nox {x : M α} {Q : α → Hv → Prop} : wp (x.nox h) Q = wp (x h) Q := by
  unfold M.nox
  cases x h <;> rfl
/-! expressions -/
variable {Q : PV → Hv → Prop}
@[simp] theorem wp_cst {v : PV} : wp (eCst v σ h) Q = Q v h := nd rfl
@[simp] theorem eVar_0 {v : PV} : eVar 0 (some v :: σ) h = .ok v h := nd rfl
@[simp] theorem eVar_s {i : Nat} {o : Option PV} : eVar (i + 1) (o :: σ) h = eVar i σ h := nd rfl
@[simp] theorem wp_bin {f : PV → PV → M PV} {a b : ES} : wp (eBin f a b σ h) Q = wp (a σ h) fun x h => wp (b σ h) fun y h => wp (f x y h) Q := by unfold eBin; simp only [wp_bnd]
@[simp] theorem wp_un {f : PV → M PV} {a : ES} : wp (eUn f a σ h) Q = wp (a σ h) fun x h => wp (f x h) Q := by unfold eUn; simp only [wp_bnd]
@[simp] theorem wp_c1 {f : PV → M PV} {a : ES} : wp (eCall1 f a σ h) Q = wp (a σ h) fun x h => wp (f x h) Q := by unfold eCall1; simp only [wp_bnd]
@[simp] theorem wp_c2 {f : PV → PV → M PV} {a b : ES} : wp (eCall2 f a b σ h) Q = wp (a σ h) fun x h => wp (b σ h) fun y h => wp (f x y h) Q := by unfold eCall2; simp only [wp_bnd]
@[simp] theorem wp_truth {v : PV} {Q : Bool → Hv → Prop} : wp (truthM v h) Q = wp (M.ofO (truthOf h v) h) Q := nd rfl
@[simp] theorem wp_not {a : ES} : wp (eNot a σ h) Q = wp (a σ h) fun x h => wp (truthM x h) fun t h => Q (.bl (!t)) h := by unfold eNot; simp only [wp_bnd, wp_ret]
theorem wp_ite {c : Prop} [Decidable c] {x y : M α} {Q : α → Hv → Prop} : wp ((if c then x else y) h) Q = if c then wp (x h) Q else wp (y h) Q := by split <;> rfl
@[simp] theorem wp_or {a b : ES} : wp (eOr a b σ h) Q = wp (a σ h) fun x h => wp (truthM x h) fun t h => if t then Q x h else wp (b σ h) Q := by unfold eOr; simp only [wp_bnd, wp_ite, wp_ret]
@[simp] theorem wp_and {a b : ES} : wp (eAnd a b σ h) Q = wp (a σ h) fun x h => wp (truthM x h) fun t h => if t then wp (b σ h) Q else Q x h := by unfold eAnd; simp only [wp_bnd, wp_ite, wp_ret]
@[simp] theorem wp_if {t : TSm} {a b : ES} : wp (eIf t a b σ h) Q = wp (t σ h) fun t h => if t then wp (a σ h) Q else wp (b σ h) Q := by unfold eIf; simp only [wp_bnd, wp_ite]
@[simp] theorem wp_tVal {a : ES} {Q : Bool → Hv → Prop} : wp (tVal a σ h) Q = wp (a σ h) fun x h => wp (truthM x h) Q := by unfold tVal; simp only [wp_bnd]
/-- a bool's bit -/
def blQ (Q : Bool → Hv → Prop) : PV → Hv → Prop := fun x h => match x with
  | .bl b => Q b h
  | _ => False
@[simp] theorem blQ_bl {Q : Bool → Hv → Prop} {b : Bool} : blQ Q (.bl b) h = Q b h := nd rfl
@[simp] theorem wp_tBl {a : ES} {Q : Bool → Hv → Prop} : wp (tBl a σ h) Q = wp (a σ h) (blQ Q) := by
  unfold tBl
  simp only [wp_bnd]
  congr 1
  funext x h
  cases x <;> rfl
@[simp] theorem wp_tAnd {a b : TSm} {Q : Bool → Hv → Prop} : wp (tAnd a b σ h) Q = wp (a σ h) fun t h => if t then wp (b σ h) Q else Q false h := by unfold tAnd; simp only [wp_bnd, wp_ite, wp_ret]
@[simp] theorem wp_tOr {a b : TSm} {Q : Bool → Hv → Prop} : wp (tOr a b σ h) Q = wp (a σ h) fun t h => if t then Q true h else wp (b σ h) Q := by unfold tOr; simp only [wp_bnd, wp_ite, wp_ret]
@[simp] theorem wp_tNot {a : TSm} {Q : Bool → Hv → Prop} : wp (tNot a σ h) Q = wp (a σ h) fun t h => Q (!t) h := by unfold tNot; simp only [wp_bnd, wp_ret]
@[simp] theorem wp_chain {f g : PV → PV → M PV} {a b c : ES} : wp (eChain f g a b c σ h) Q = wp (a σ h) fun x h => wp (b σ h) fun y h => wp (f x y h) (blQ fun t h => if t then wp (c σ h) fun z h => wp (g y z h) (blQ fun t h => Q (.bl t) h) else Q (.bl false) h) := by
  unfold eChain
  simp only [wp_bnd]
  congr 1
  funext x h
  congr 1
  funext y h
  congr 1
  funext r h
  cases r with
  | bl t =>
    cases t with
    | false => rfl
    | true =>
      simp only [wp_bnd, blQ_bl, if_true]
      congr 1
      funext z h
      congr 1
      funext r h
      cases r <;> rfl
  | _ => rfl
@[simp] theorem wp_all0 {Q : List PV → Hv → Prop} : wp (eAll [] σ h) Q = Q [] h := nd rfl
@[simp] theorem wp_all1 {a : ES} {as : List ES} {Q : List PV → Hv → Prop} : wp (eAll (a :: as) σ h) Q = wp (a σ h) fun x h => wp (eAll as σ h) fun xs h => Q (x :: xs) h := by
  show wp (((a σ).bnd fun x => (eAll as σ).bnd fun xs => M.ret (x :: xs)) h) Q = _
  simp only [wp_bnd, wp_ret]
@[simp] theorem wp_tup {as : List ES} : wp (eTup as σ h) Q = wp (eAll as σ h) fun xs h => wp (mkT xs h) Q := by unfold eTup; simp only [wp_bnd]
@[simp] theorem wp_lst {m : Bool} {as : List ES} : wp (eLst m as σ h) Q = wp (eAll as σ h) fun xs h => wp (mkL m xs h) Q := by unfold eLst; simp only [wp_bnd]
@[simp] theorem wp_call {f : List PV → M PV} {as : List ES} : wp (eCall f as σ h) Q = wp (eAll as σ h) fun xs h => wp (f xs h) Q := by unfold eCall; simp only [wp_bnd]
/-- a receiver that is a list's cell -/
theorem wp_meth {f : PV → List PV → M PV} {o : ES} {as : List ES} : wp (eMeth f o as σ h) Q = wp (o σ h) fun x h => (recvL h x).isSome = true ∧ wp (eAll as σ h) fun xs h => wp (f x xs h) Q := by
  refine Eq.trans wp_bnd ?_
  congr 1
  funext x h
  show wp (match recvL h x with
    | some _ => ((eAll as σ).bnd fun xs => f x xs) h
    | none => .stuck) Q = _
  cases q : recvL h x with
  | none => simp
  | some p =>
    refine Eq.trans wp_bnd ?_
    simp
@[simp] theorem wp_part {a : ES} {Q : Option Int → Hv → Prop} : wp (ePart a σ h) Q = wp (a σ h) fun x h => match x with
  | .int i => Q (some i) h
  | _ => False := by
  unfold ePart
  simp only [wp_bnd]
  congr 1
  funext x h
  cases x <;> rfl
@[simp] theorem wp_noPart {Q : Option Int → Hv → Prop} : wp (eNoPart σ h) Q = Q none h := nd rfl
@[simp] theorem wp_slice {m : Bool} {o : ES} {l u : Sg → M (Option Int)} : wp (eSlice m o l u σ h) Q = wp (o σ h) fun x h => wp (l σ h) fun i h => wp (u σ h) fun j h => wp (sSlice m x i j h) Q := by unfold eSlice; simp only [wp_bnd]
/-! walks -/
@[simp] theorem wp_iSeq {a : ES} {Q : List PV × Src → Hv → Prop} : wp (iSeq a σ h) Q = wp (a σ h) fun x h => wp (M.ofO (seqS h x) h) Q := wp_bnd
@[simp] theorem wp_iEnum {a : ES} {Q : List PV × Src → Hv → Prop} : wp (iEnum a σ h) Q = wp (a σ h) fun x h => wp (M.ofO ((seqS h x).map fun p => (enumP p.1, p.2)) h) Q := wp_bnd
theorem wp_iRng1 {a : ES} {Q : List PV × Src → Hv → Prop} : wp (iRng1 a σ h) Q = wp (a σ h) fun x h => match x with
  | .int n => rgOk 0 n ∧ Q (rgP 0 n, []) h
  | _ => False := by
  unfold iRng1
  simp only [wp_bnd]
  congr 1
  funext x h
  cases x with
  | int n =>
    show wp ((if rgOk 0 n then M.ret (rgP 0 n, []) else M.stk) h) Q = _
    rw [wp_ite]
    split
    · rename_i q; simp [q]
    · rename_i q; simp [q]
  | _ => rfl
@[simp] theorem wp_eComp {m : Bool} {own : List Nat} {it : IS} {g : TGt} {t : TSm} {e : ES} : wp (eComp m own it g t e σ h) Q = wp (it σ h) fun p h => wp (compL p.2 g t e (wipeS σ own) p.1 h) fun ys h => wp (mkL m ys h) Q := by unfold eComp; simp only [wp_bnd]
theorem srcOk_nil : srcOk h [] := fun p hp => absurd hp (by simp)
/-- a comprehension, by what holds after each turn -/
theorem wp_comp {src : Src} {g : TGt} {t : TSm} {e : ES} {Q : List PV → Hv → Prop} {σ : Sg} (I : List PV → List PV → Hv → Prop) : ∀ (xs : List PV) (h : Hv) (acc : List PV), (∀ x r acc h, I (x :: r) acc h → srcOk h src ∧ ∃ σ', g x σ = some σ' ∧ wp (t σ' h) fun b h => if b then wp (e σ' h) fun y h => I r (acc ++ [y]) h else I r acc h) →
    (∀ acc h, I [] acc h → srcOk h src ∧ Q acc h) → I xs acc h → wp (compL src g t e σ xs h) fun ys h => Q (acc ++ ys) h
  | [], h, acc, _, fin, i => by
    obtain ⟨h1, h2⟩ := fin acc h i
    unfold compL
    rw [if_pos h1]
    rw [wp_ok, List.append_nil]
    exact h2
  | x :: xs, h, acc, st, fin, i => by
    obtain ⟨h1, σ', h2, h3⟩ := st x xs acc h i
    unfold compL
    rw [if_pos h1, h2]
    simp only [wp_bnd, wp_nox]
    refine h3.mono fun b h' q => ?_
    rw [wp_ite]
    cases b with
    | false =>
      rw [if_neg (by decide)] at q ⊢
      exact wp_comp I xs h' acc st fin q
    | true =>
      rw [if_pos rfl] at q ⊢
      simp only [wp_bnd, wp_nox, wp_ret]
      refine wp.mono q fun y h2 q2 => ?_
      refine (wp_comp I xs h2 (acc ++ [y]) st fin q2).mono fun ys h3 q3 => ?_
      rw [List.append_assoc] at q3
      exact q3
theorem wp_comp0 {src : Src} {g : TGt} {t : TSm} {e : ES} {Q : List PV → Hv → Prop} {σ : Sg} (I : List PV → List PV → Hv → Prop) (xs : List PV) (h : Hv) (st : ∀ x r acc h, I (x :: r) acc h → srcOk h src ∧ ∃ σ', g x σ = some σ' ∧ wp (t σ' h) fun b h => if b then wp (e σ' h) fun y h => I r (acc ++ [y]) h else I r acc h)
    (fin : ∀ acc h, I [] acc h → srcOk h src ∧ Q acc h) (i : I xs [] h) : wp (compL src g t e σ xs h) Q :=
  (wp_comp I xs h [] st fin i).mono fun _ _ q => q
/-- .. that gives f x for each x, and changes nothing -/
theorem comp_map {src : Src} {g : TGt} {e : ES} {σ : Sg} {f : PV → PV} (hs : srcOk h src) : ∀ (xs : List PV), (∀ x ∈ xs, ∃ σ', g x σ = some σ' ∧ e σ' h = .ok (f x) h) → compL src g tYes e σ xs h = .ok (xs.map f) h
  | [], _ => by unfold compL; rw [if_pos hs]; rfl
  | x :: xs, hx => by
    obtain ⟨σ', h1, h2⟩ := hx x (List.mem_cons_self ..)
    have ih := comp_map hs xs fun y hy => hx y (List.mem_cons_of_mem _ hy)
    unfold compL
    rw [if_pos hs, h1]
    have e1 : (tYes σ').nox h = .ok true h := rfl
    have e2 : (e σ').nox h = .ok (f x) h := by unfold M.nox; rw [h2]
    show M.bnd (tYes σ').nox (fun b => if b then ((e σ').nox).bnd fun y => (compL src g tYes e σ xs).bnd fun ys => M.ret (y :: ys) else compL src g tYes e σ xs) h = _
    refine Eq.trans (bnd_ok e1) ?_
    rw [if_pos rfl]
    refine Eq.trans (bnd_ok e2) ?_
    exact bnd_ok ih
/-! statements -/
variable {N : Sg → Hv → Prop} {R : PV → Hv → Prop}
theorem wps.mono {r : SR} {N N' : Sg → Hv → Prop} {R R' : PV → Hv → Prop} (p : wps r N R) (i : ∀ σ h, N σ h → N' σ h) (j : ∀ v h, R v h → R' v h) : wps r N' R' := by
  cases r with
  | nx σ h => exact i σ h p
  | ret v h => exact j v h p
  | _ => exact p
@[simp] theorem wps_nx : wps (.nx σ h) N R = N σ h := nd rfl
@[simp] theorem wps_rt {v : PV} : wps (.ret v h) N R = R v h := nd rfl
@[simp] theorem wps_nil : wps (sNil σ h) N R = N σ h := nd rfl
@[simp] theorem wps_seq {a b : SS} : wps (sSeq a b σ h) N R = wps (a σ h) (fun σ h => wps (b σ h) N R) R := by
  unfold sSeq SR.then
  cases a σ h <;> rfl
theorem wps_thn {α : Type} {x : M α} {f : α → Hv → SR} : wps ((x.thn f) h) N R = wp (x h) fun a h => wps (f a h) N R := by
  unfold M.thn
  cases x h <;> rfl
@[simp] theorem wps_ret {e : ES} : wps (sRet e σ h) N R = wp (e σ h) R := by unfold sRet; simp only [wps_thn, wps_rt]
@[simp] theorem wps_retN : wps (sRetN σ h) N R = R .non h := nd rfl
@[simp] theorem wps_expr {e : ES} : wps (sExpr e σ h) N R = wp (e σ h) fun _ h => N σ h := by unfold sExpr; simp only [wps_thn, wps_nx]
/-- a store's rest -/
def stO (o : Option Sg) (N : Sg → Hv → Prop) : Hv → Prop := fun h => match o with
  | some σ => N σ h
  | none => False
@[simp] theorem stO_some {N : Sg → Hv → Prop} : stO (some σ) N h = N σ h := nd rfl
@[simp] theorem wps_asg {g : TGt} {e : ES} : wps (sAsg g e σ h) N R = wp (e σ h) fun v h => stO (g v σ) N h := by
  unfold sAsg
  simp only [wps_thn]
  congr 1
  funext v h
  cases g v σ <;> rfl
@[simp] theorem wps_par {g : List PV → Sg → Option Sg} {es : List ES} : wps (sPar g es σ h) N R = wp (eAll es σ h) fun vs h => stO (g vs σ) N h := by
  unfold sPar
  simp only [wps_thn]
  congr 1
  funext v h
  cases g v σ <;> rfl
@[simp] theorem wps_put {o i v : ES} : wps (sPut o i v σ h) N R = wp (v σ h) fun z h => wp (o σ h) fun x h => wp (i σ h) fun y h => wp (setItem x y z h) fun _ h => N σ h := by unfold sPut; simp only [wps_thn, wps_nx]
@[simp] theorem wps_if {t : TSm} {a b : SS} : wps (sIf t a b σ h) N R = wp (t σ h) fun t h => if t then wps (a σ h) N R else wps (b σ h) N R := by
  unfold sIf
  simp only [wps_thn]
  congr 1
  funext t h
  cases t <;> rfl
@[simp] theorem wps_for {it : IS} {g : TGt} {b : SS} : wps (sFor it g b σ h) N R = wp (it σ h) fun p h => wps (forL p.2 g b p.1 σ h) N R := by unfold sFor; simp only [wps_thn]
/-- a walk, by what holds ahead of each turn -/
theorem wps_forL {src : Src} {g : TGt} {b : SS} (I : List PV → Sg → Hv → Prop) : ∀ (xs : List PV) (σ : Sg) (h : Hv), (∀ x r σ h, I (x :: r) σ h → srcOk h src ∧ ∃ σ', g x σ = some σ' ∧ wps (b σ' h) (I r) R) → (∀ σ h, I [] σ h → srcOk h src ∧ N σ h) → I xs σ h → wps (forL src g b xs σ h) N R
  | [], σ, h, _, fin, i => by
    obtain ⟨h1, h2⟩ := fin σ h i
    unfold forL
    rw [if_pos h1]
    exact h2
  | x :: xs, σ, h, st, fin, i => by
    obtain ⟨h1, σ', h2, h3⟩ := st x xs σ h i
    unfold forL
    rw [if_pos h1, h2]
    simp only
    cases q : b σ' h with
    | nx σ2 h2' =>
      rw [q] at h3
      exact wps_forL I xs σ2 h2' st fin h3
    | ret v h2' => rw [q] at h3; exact h3
    | brk _ _ => rw [q] at h3; exact h3.elim
    | ct _ _ => rw [q] at h3; exact h3.elim
    | exc _ _ => rw [q] at h3; exact h3.elim
    | stuck => rw [q] at h3; exact h3.elim
@[simp] theorem gNm_ev {i : Nat} {v : PV} : gNm i v σ = some (σ.set i (some v)) := nd rfl
@[simp] theorem gTp_ev {gs : List TGt} {xs : List PV} : gTp gs (.tup xs) σ = gAll gs xs σ := nd rfl
@[simp] theorem gAll_nil : gAll [] [] σ = some σ := nd rfl
@[simp] theorem gAll_cons {g : TGt} {gs : List TGt} {v : PV} {vs : List PV} : gAll (g :: gs) (v :: vs) σ = (g v σ).bind fun σ' => gAll gs vs σ' := nd rfl
@[simp] theorem wipe_nil : wipeS σ [] = σ := nd rfl
@[simp] theorem wipe_cons {v : Nat} {vs : List Nat} : wipeS σ (v :: vs) = (wipeS σ vs).set v none := nd rfl
/-! a def's end -/
theorem leave_id {v : PV} (hv : nrf h.length v = true) : leave h.length (.ok v h) = .ok v h := by
  unfold leave
  simp only [List.take_length]
  split <;> first | rfl | rw [if_pos hv]
theorem wp_runF {n : Nat} {m : SS} {vs : List PV} (p : wps (m (startS n vs) h) (fun _ h' => wp (leave h.length (.ok .non h')) Q) fun v h' => wp (leave h.length (.ok v h')) Q) : wp (runD false n m vs h) Q := by
  show wp (leave h.length (endS (m (startS n vs) h))) Q
  cases q : m (startS n vs) h with
  | nx σ h' => rw [q] at p; exact p
  | ret v h' => rw [q] at p; exact p
  | _ => rw [q] at p; exact p.elim
theorem wp_runK {n : Nat} {m : SS} {vs : List PV} (p : wps (m (startS n vs) h) (fun _ h' => Q .non h') fun v h' => Q v h') : wp (runD true n m vs h) Q := by
  show wp (endS (m (startS n vs) h)) Q
  cases q : m (startS n vs) h with
  | nx σ h' => rw [q] at p; exact p
  | ret v h' => rw [q] at p; exact p
  | _ => rw [q] at p; exact p.elim
/-! operations on what is known -/
@[simp] theorem wp_addI {m : Bool} {a b : Int} : wp (bAdd m (.int a) (.int b) h) Q = Q (.int (a + b)) h := nd rfl
@[simp] theorem wp_addT {m : Bool} {a b : List PV} : wp (bAdd m (.tup a) (.tup b) h) Q = wp (mkT (a ++ b) h) Q := nd rfl
@[simp] theorem wp_addL {m : Bool} {a b : List PV} : wp (bAdd m (.lst a) (.lst b) h) Q = wp (mkL m (a ++ b) h) Q := nd rfl
@[simp] theorem wp_subI {a b : Int} : wp (bSub (.int a) (.int b) h) Q = Q (.int (a - b)) h := nd rfl
@[simp] theorem wp_negI {a : Int} : wp (uNeg (.int a) h) Q = Q (.int (-a)) h := nd rfl
@[simp] theorem wp_intI {a : Int} : wp (bInt (.int a) h) Q = Q (.int a) h := nd rfl
@[simp] theorem wp_intB {b : Bool} : wp (bInt (.bl b) h) Q = Q (.int (if b then 1 else 0)) h := nd rfl
@[simp] theorem wp_max {a b : Int} : wp (bMax2 (.int a) (.int b) h) Q = Q (.int (max a b)) h := nd rfl
@[simp] theorem wp_min {a b : Int} : wp (bMin2 (.int a) (.int b) h) Q = Q (.int (min a b)) h := nd rfl
theorem wp_mulI {m : Bool} {a b : Int} (c : (-(2 ^ 64) < a ∧ a < 2 ^ 64) ∨ (-(2 ^ 64) < b ∧ b < 2 ^ 64)) : wp (bMul m (.int a) (.int b) h) Q = Q (.int (a * b)) h := by
  have e : bMul m (.int a) (.int b) h = if (-(2 ^ 64) < a ∧ a < 2 ^ 64) ∨ (-(2 ^ 64) < b ∧ b < 2 ^ 64) then .ok (.int (a * b)) h else .stuck := rfl
  rw [e, if_pos c]
  rfl
theorem wp_modI {a b : Int} (c : 0 < b) : wp (bMod (.int a) (.int b) h) Q = Q (.int (a % b)) h := by
  have e : bMod (.int a) (.int b) h = if 0 < b then .ok (.int (a % b)) h else .stuck := rfl
  rw [e, if_pos c]
  rfl
theorem wp_divI {a b : Int} (c : 0 < b ∧ b < 2 ^ 9000) : wp (bDiv (.int a) (.int b) h) Q = Q (.int (a / b)) h := by
  have e : bDiv (.int a) (.int b) h = if 0 < b ∧ b < 2 ^ 9000 then .ok (.int (a / b)) h else .stuck := rfl
  rw [e, if_pos c]
  rfl
theorem wp_powI {a b : Int} (c : 0 ≤ b ∧ b ≤ 1000000 ∧ a.natAbs < 2 ^ 64) : wp (bPow (.int a) (.int b) h) Q = Q (.int (a ^ b.toNat)) h := by
  have e : bPow (.int a) (.int b) h = if 0 ≤ b ∧ b ≤ 1000000 ∧ a.natAbs < 2 ^ 64 then .ok (.int (a ^ b.toNat)) h else .stuck := rfl
  rw [e, if_pos c]
  rfl
theorem wp_mkT {xs : List PV} (c : xs.length ≤ sizeLine) : wp (mkT xs h) Q = Q (.tup xs) h := by
  unfold mkT
  rw [if_pos c]
  rfl
theorem wp_mkLf {xs : List PV} (c : xs.length ≤ sizeLine) : wp (mkL false xs h) Q = Q (.lst xs) h := by
  unfold mkL
  rw [if_pos c]
  rfl
theorem wp_mkLt {xs : List PV} (c : xs.length ≤ sizeLine) : wp (mkL true xs h) Q = Q (.ref h.length) (h ++ [.lst xs]) := by
  unfold mkL
  rw [if_pos c]
  rfl
@[simp] theorem wp_eqC {v w : PV} : wp (cEq v w h) Q = wp (M.ofO ((eqB h v w).map PV.bl) h) Q := nd rfl
@[simp] theorem wp_neC {v w : PV} : wp (cNe v w h) Q = wp (M.ofO ((eqB h v w).map fun b => PV.bl (!b)) h) Q := nd rfl
@[simp] theorem wp_ltI {a b : Int} : wp (cLt (.int a) (.int b) h) Q = Q (.bl (decide (a < b))) h := nd rfl
@[simp] theorem wp_gtI {a b : Int} : wp (cGt (.int a) (.int b) h) Q = Q (.bl (decide (b < a))) h := nd rfl
@[simp] theorem wp_leI {a b : Int} : wp (cLe (.int a) (.int b) h) Q = Q (.bl (decide (a ≤ b))) h := nd rfl
@[simp] theorem wp_geI {a b : Int} : wp (cGe (.int a) (.int b) h) Q = Q (.bl (decide (b ≤ a))) h := nd rfl
theorem eqB_int {a b : Int} : eqB h (.int a) (.int b) = some (decide (a = b)) := by
  show (if min (PyData.depth (.int a)) (PyData.depth (.int b)) ≤ 100 then some (PyData.eqv (.int a) (.int b)) else none) = _
  rw [if_pos (by simp [PyData.depth])]
  congr 1
end
end HS
end
-- text EvSrt
section
set_option Elab.async false
set_option linter.all false
set_option maxRecDepth 100000

/-! sorted, set, dicts: what comes out. -/
namespace HS
open PySem
/-- ints in order -/
def srt (is : List Int) : List Int := is.mergeSort fun a b => decide (a ≤ b)
def le2 (p q : Int × Int) : Bool := decide (p.1 < q.1 ∨ (p.1 = q.1 ∧ p.2 ≤ q.2))
def srt2 (ps : List (Int × Int)) : List (Int × Int) := ps.mergeSort le2
def pairV (p : Int × Int) : PV := .tup [.int p.1, .int p.2]
theorem srt_perm (is : List Int) : (srt is).Perm is := List.mergeSort_perm _ _
theorem srt_asc (is : List Int) : (srt is).Pairwise (· ≤ ·) := (List.pairwise_mergeSort (le := fun a b : Int => decide (a ≤ b)) (fun a b c h1 h2 => by simp only [decide_eq_true_eq] at *; omega) (fun a b => by simp only [Bool.or_eq_true, decide_eq_true_eq]; omega) is).imp fun h => of_decide_eq_true h
theorem srt2_perm (ps : List (Int × Int)) : (srt2 ps).Perm ps := List.mergeSort_perm _ _
theorem srt2_asc (ps : List (Int × Int)) : (srt2 ps).Pairwise (fun p q => p.1 < q.1 ∨ (p.1 = q.1 ∧ p.2 ≤ q.2)) := (List.pairwise_mergeSort (le := le2) (fun a b c h1 h2 => by unfold le2 at *; simp only [decide_eq_true_eq] at *; omega) (fun a b => by unfold le2; simp only [Bool.or_eq_true, decide_eq_true_eq]; omega) ps).imp fun h => of_decide_eq_true h
theorem srt_strict {is : List Int} (h : is.Nodup) : (srt is).Pairwise (· < ·) := by
  have h1 := srt_asc is
  have h2 : (srt is).Pairwise (· ≠ ·) := (srt_perm is).nodup_iff.mpr h
  exact (h1.and h2).imp fun ⟨a, b⟩ => by omega
theorem srt2_strict {ps : List (Int × Int)} (h : (ps.map (·.1)).Nodup) : ((srt2 ps).map (·.1)).Pairwise (· < ·) := by
  have h1 := srt2_asc ps
  have h2 : ((srt2 ps).map (·.1)).Nodup := ((srt2_perm ps).map (·.1)).nodup_iff.mpr h
  rw [List.pairwise_map]
  have h3 : (srt2 ps).Pairwise fun p q => p.1 ≠ q.1 := List.pairwise_map.mp h2
  exact (h1.and h3).imp fun ⟨a, b⟩ => by omega
theorem encP_int (i : Int) : encP (.int i) = .int i := rfl
theorem encP_pair (p : Int × Int) : encP (pairV p) = .tuple [.int p.1, .int p.2] := rfl
theorem toDs_map {α : Type} {f : α → PV} {g : α → PyData} (h : ∀ a, toD (f a) = some (g a)) : ∀ l : List α, toDs (l.map f) = some (l.map g)
  | [] => rfl
  | a :: l => by
    show (match toD (f a), toDs (l.map f) with
      | some d, some ds => some (d :: ds)
      | _, _ => none) = _
    rw [h a, toDs_map h l]
    rfl
theorem srtP_int (is : List Int) : srtP (is.map .int) = some ((srt is).map .int) := by
  unfold srtP
  rw [if_pos]
  · congr 1
    unfold srt
    refine (List.map_mergeSort ?_).symm
    intro a _ b _
    have e := congrFun (congrFun (PySem.W.dataLe_int (fun i : Int => i)) a) b
    exact e.symm
  · refine ⟨by rw [toDs_map (g := PyData.int) (fun _ => rfl)]; rfl, ?_, .inr fun d hd => ?_, fun x hx => ?_⟩
    · intro d hd d' hd'
      rw [List.map_map] at hd hd'
      obtain ⟨a, _, rfl⟩ := List.mem_map.mp hd
      obtain ⟨b, _, rfl⟩ := List.mem_map.mp hd'
      rfl
    · rw [List.map_map] at hd
      obtain ⟨a, _, rfl⟩ := List.mem_map.mp hd
      exact ⟨fun z => (nomatch z), fun xs z => (nomatch z)⟩
    · obtain ⟨a, _, rfl⟩ := List.mem_map.mp hx
      rw [encP_int]
      simp [PyData.depth]
theorem srtP_pair (ps : List (Int × Int)) : srtP (ps.map pairV) = some ((srt2 ps).map pairV) := by
  unfold srtP
  rw [if_pos]
  · congr 1
    unfold srt2
    refine (List.map_mergeSort ?_).symm
    intro a _ b _
    have e := congrFun (congrFun (PySem.W.dataLe_ii (fun p : Int × Int => p.1) (fun p => p.2)) a) b
    exact e.symm
  · refine ⟨by rw [toDs_map (g := fun p : Int × Int => PyData.tuple [.int p.1, .int p.2]) (fun _ => rfl)]; rfl, ?_, .inl fun d hd => ?_, fun x hx => ?_⟩
    · intro d hd d' hd'
      rw [List.map_map] at hd hd'
      obtain ⟨a, _, rfl⟩ := List.mem_map.mp hd
      obtain ⟨b, _, rfl⟩ := List.mem_map.mp hd'
      rfl
    · rw [List.map_map] at hd
      obtain ⟨a, _, rfl⟩ := List.mem_map.mp hd
      exact ⟨_, _, rfl⟩
    · obtain ⟨a, _, rfl⟩ := List.mem_map.mp hx
      rw [encP_pair]
      simp [PyData.depth, PyData.depthAll]
section
variable {h : Hv} {Q : PV → Hv → Prop}
theorem wp_sortI {v : PV} {is : List Int} (e : lstOf h v = some (is.map .int)) (c : is.length ≤ sizeLine) : wp (bSorted false v h) Q = Q (.lst ((srt is).map .int)) h := by
  have c2 : ((srt is).map PV.int).length ≤ sizeLine := by rw [List.length_map, (srt_perm is).length_eq]; exact c
  unfold bSorted
  split
  · cases e
  · rw [e]
    simp only
    rw [srtP_int]
    exact wp_mkLf c2
theorem wp_sortP {v : PV} {ps : List (Int × Int)} (e : lstOf h v = some (ps.map pairV)) (c : ps.length ≤ sizeLine) : wp (bSorted false v h) Q = Q (.lst ((srt2 ps).map pairV)) h := by
  have c2 : ((srt2 ps).map pairV).length ≤ sizeLine := by rw [List.length_map, (srt2_perm ps).length_eq]; exact c
  unfold bSorted
  split
  · cases e
  · rw [e]
    simp only
    rw [srtP_pair]
    exact wp_mkLf c2
theorem insI_len (x : Int) : ∀ ys : List Int, (insI x ys).length ≤ ys.length + 1
  | [] => Nat.le_refl _
  | y :: ys => by
    unfold insI
    split
    · exact Nat.le_refl _
    · split
      · exact Nat.le_succ _
      · exact Nat.succ_le_succ (insI_len x ys)
theorem srtI_len : ∀ xs : List Int, (srtI xs).length ≤ xs.length
  | [] => Nat.le_refl _
  | x :: xs => Nat.le_trans (insI_len x _) (Nat.succ_le_succ (srtI_len xs))
theorem wp_sortS {xs : List Int} (c : xs.length < 64) : wp (bSorted false (.set xs) h) Q = Q (.lst ((srtI xs).map .int)) h := by
  show wp ((if xs.length < 64 then mkL false ((srtI xs).map .int) h else .stuck)) Q = _
  rw [if_pos c]
  refine wp_mkLf ?_
  rw [List.length_map]
  have := srtI_len xs
  show _ ≤ 2 ^ 24
  omega
theorem wp_set {v : PV} {is : List Int} (e : lstOf h v = some (is.map .int)) (c : is.length ≤ 1000) : wp (bSet v h) Q = Q (.set is) h := by
  unfold bSet
  rw [e]
  have e2 : ∀ is : List Int, intsOf (is.map .int) = some is := fun is => by
    induction is with
    | nil => rfl
    | cons a as ih =>
      show (intsOf (as.map .int)).map (a :: ·) = _
      rw [ih]
      rfl
  simp only [Option.bind_some, e2]
  rw [if_pos c]
  rfl
theorem wp_tuple {v : PV} {xs : List PV} (e : lstOf h v = some xs) (c : xs.length ≤ sizeLine) : wp (bTuple v h) Q = Q (.tup xs) h := by
  unfold bTuple
  split
  · cases e
  · rw [e]
    exact wp_mkT c
theorem wp_tupT {xs : List PV} : wp (bTuple (.tup xs) h) Q = Q (.tup xs) h := rfl
theorem wp_listS {v : PV} {xs : List PV} (e : seqOf h v = some xs) (c : xs.length ≤ sizeLine) : wp (bList false v h) Q = Q (.lst xs) h := by
  unfold bList
  rw [e]
  exact wp_mkLf c
theorem wp_len {v : PV} {n : Nat} (e : lenB h v = some n) : wp (bLen v h) Q = Q (natV n) h := by
  unfold bLen
  rw [e]
  rfl
theorem wp_mkT0 : wp (mkT [] h) Q = Q (.tup []) h := wp_mkT (show 0 ≤ sizeLine by decide)
theorem wp_mkL0 : wp (mkL false [] h) Q = Q (.lst []) h := wp_mkLf (show 0 ≤ sizeLine by decide)
theorem wp_mkT1 {a : PV} : wp (mkT [a] h) Q = Q (.tup [a]) h := wp_mkT (show 1 ≤ sizeLine by decide)
theorem wp_mkL1 {a : PV} : wp (mkL false [a] h) Q = Q (.lst [a]) h := wp_mkLf (show 1 ≤ sizeLine by decide)
theorem wp_mkT2 {a b : PV} : wp (mkT [a, b] h) Q = Q (.tup [a, b]) h := wp_mkT (show 2 ≤ sizeLine by decide)
theorem wp_mkL2 {a b : PV} : wp (mkL false [a, b] h) Q = Q (.lst [a, b]) h := wp_mkLf (show 2 ≤ sizeLine by decide)
theorem wp_mkT3 {a b c : PV} : wp (mkT [a, b, c] h) Q = Q (.tup [a, b, c]) h := wp_mkT (show 3 ≤ sizeLine by decide)
theorem wp_mkL3 {a b c : PV} : wp (mkL false [a, b, c] h) Q = Q (.lst [a, b, c]) h := wp_mkLf (show 3 ≤ sizeLine by decide)
theorem wp_mkT4 {a b c d : PV} : wp (mkT [a, b, c, d] h) Q = Q (.tup [a, b, c, d]) h := wp_mkT (show 4 ≤ sizeLine by decide)
theorem wp_mkL4 {a b c d : PV} : wp (mkL false [a, b, c, d] h) Q = Q (.lst [a, b, c, d]) h := wp_mkLf (show 4 ≤ sizeLine by decide)
theorem wp_mkT5 {a b c d e : PV} : wp (mkT [a, b, c, d, e] h) Q = Q (.tup [a, b, c, d, e]) h := wp_mkT (show 5 ≤ sizeLine by decide)
theorem wp_mkL5 {a b c d e : PV} : wp (mkL false [a, b, c, d, e] h) Q = Q (.lst [a, b, c, d, e]) h := wp_mkLf (show 5 ≤ sizeLine by decide)
theorem wp_mkT6 {a b c d e f : PV} : wp (mkT [a, b, c, d, e, f] h) Q = Q (.tup [a, b, c, d, e, f]) h := wp_mkT (show 6 ≤ sizeLine by decide)
theorem wp_mkL6 {a b c d e f : PV} : wp (mkL false [a, b, c, d, e, f] h) Q = Q (.lst [a, b, c, d, e, f]) h := wp_mkLf (show 6 ≤ sizeLine by decide)
end
end HS
end
-- text k78p1
section
set_option Elab.async false
set_option linter.all false
set_option maxRecDepth 100000
set_option maxHeartbeats 4000000
namespace HS
open PySem PySem.Spec PyProof.Rows
namespace K78
local macro_rules | `(tactic| walk_at "ev") => `(tactic| simp only [wps_seq, wps_put, wps_asg, wps_par, wps_if, wps_ret, wps_expr, wps_nil, wps_for, wp_bin, wp_un, wp_cst, wp_c1, wp_c2, wp_or, wp_and, wp_not, wp_if, wp_tVal, wp_tBl, wp_tAnd, wp_tOr, wp_tNot, wp_truth, wp_chain, wp_all0, wp_all1, wp_tup, wp_lst, wp_call, wp_meth, wp_part, wp_noPart, wp_slice, wp_iSeq, wp_iEnum, wp_eComp, wp_ok, wp_ret, wp_ofO, eVar_0, eVar_s, blQ_bl, gNm_ev, gTp_ev, gAll_nil, gAll_cons, stO_some, wipe_nil, wipe_cons, List.set, wp_addI, wp_subI, wp_negI, wp_intI, wp_intB, wp_max, wp_min, wp_eqC, wp_neC, wp_ltI, wp_gtI, wp_leI, wp_geI, Option.map_some, Option.bind_some])
/-! ### the deck -/
def kC : Key := .inr "cells"
def kM : Key := .inr "mixed"
def kD : Key := .inr "draws"
def dh (ns : List Int) (m d : Int) (t : List Cell) : Hv := .lst (ns.map .int) :: .dK [(kC, .ref 0), (kM, .int m), (kD, .int d)] :: t
/-- the deck stands at the cells 0 and 1 -/
def D (t : List Cell) (h : Hv) : Prop := ∃ ns m d, h = dh ns m d t ∧ ns.length ≤ 63
section
variable {ns : List Int} {m d : Int} {t : List Cell} {Q : PV → Hv → Prop} {h : Hv}
theorem wp_ix {v i w : PV} (e : ixB h v i = some w) : wp (sIx v i h) Q = Q w h := by
  unfold sIx
  rw [e]
  rfl
theorem ixC : ixB (dh ns m d t) (.ref 1) (.str "cells") = some (.ref 0) := by kernel_rfl
theorem ixM : ixB (dh ns m d t) (.ref 1) (.str "mixed") = some (.int m) := by kernel_rfl
theorem ixD : ixB (dh ns m d t) (.ref 1) (.str "draws") = some (.int d) := by kernel_rfl
theorem setD {e : Int} : setItem (.ref 1) (.str "draws") (.int e) (dh ns m d t) = .ok () (dh ns m e t) := by kernel_rfl
theorem toD_ints : ∀ ns : List Int, toDs (ns.map PV.int) = some (ns.map PyData.int)
  | [] => rfl
  | n :: ns => by
    show (match toD (PV.int n), toDs (ns.map PV.int) with
      | some d, some ds => some (d :: ds)
      | _, _ => none) = _
    rw [toD_ints ns]
    rfl
theorem neC : eqB (dh ns m d t) (.ref 0) (.lst []) = some (decide (ns = [])) := by
  show (match (some (ns.map PV.int)).bind (fun xs => (toDs xs).map PyData.list), (toDs []).map PyData.list with
    | some d, some e => if min d.depth e.depth ≤ 100 then some (PyData.eqv d e) else none
    | _, _ => none) = _
  rw [Option.bind_some, toD_ints]
  show (if min (PyData.depth (.list (ns.map .int))) (PyData.depth (.list [])) ≤ 100 then some (PyData.eqv (.list (ns.map .int)) (.list [])) else none) = _
  rw [if_pos (by simp [PyData.depth, PyData.depthAll])]
  cases ns <;> rfl
theorem popC {n : Int} : mPop (.ref 0) [] (dh (ns ++ [n]) m d t) = .ok (.int n) (dh ns m d t) := by
  show (match ((ns ++ [n]).map PV.int)[((ns ++ [n]).map PV.int).length - 1]? with
    | some y => Res.ok y (setC (dh (ns ++ [n]) m d t) 0 (.lst ((ns ++ [n]).map PV.int).dropLast))
    | none => .stuck) = _
  rw [List.map_append, List.length_append, List.getElem?_append_right (by simp)]
  simp [setC, dh]
theorem appC {n : Int} (c : ns.length < 63) : mAppend (.ref 0) [.int n] (dh ns m d t) = .ok .non (dh (ns ++ [n]) m d t) := by
  show (if (ns.map PV.int).length < sizeLine then Res.ok PV.non (setC (dh ns m d t) 0 (.lst (ns.map PV.int ++ [.int n]))) else .stuck) = _
  rw [if_pos (by rw [List.length_map]; show ns.length < 2 ^ 24; omega)]
  simp [setC, dh]
theorem dh_len : (dh ns m d t).length = t.length + 2 := rfl
theorem D.len (q : D t h) : h.length = t.length + 2 := by
  obtain ⟨ns, m, d, rfl, _⟩ := q
  rfl
theorem small_mod {a b : Int} (hb : 0 < b) (h : b < 2 ^ 60) : -(2 ^ 64) < a % b ∧ a % b < 2 ^ 64 := by
  have h1 := Int.emod_nonneg a (Int.ne_of_gt hb)
  have h2 := Int.emod_lt_of_pos a hb
  omega
theorem div_ok {b : Int} (h : 0 < b) (h2 : b < 2 ^ 60) : 0 < b ∧ b < 2 ^ 9000 := by
  refine ⟨h, Int.lt_trans h2 ?_⟩
  have e : ((2 ^ 60 : Nat) : Int) < ((2 ^ 9000 : Nat) : Int) := Int.ofNat_lt.mpr (Nat.pow_lt_pow_right (by decide) (by decide))
  rw [Int.natCast_pow, Int.natCast_pow] at e
  exact e
theorem snoc_of {α : Type} {l : List α} (h : l ≠ []) : ∃ xs x, l = xs ++ [x] := ⟨l.dropLast, l.getLast h, (List.dropLast_concat_getLast h).symm⟩
/-- a draw -/
theorem wp_draw {n : Int} (q : D t h) (hn : 0 < n) (hn2 : n < 2 ^ 60) (hq : ∀ r h', 0 ≤ r → r < n → D t h' → Q (.int r) h') (ht : t.all (nrfC (t.length + 2)) = true) : wp (c__law_draw [.ref 1, .int n] h) Q := by
  obtain ⟨ns, m, d, rfl, hl⟩ := q
  have fin : ∀ (a : Int) (ns' : List Int) (m' d' : Int), ns'.length ≤ 63 → wp (leave (dh ns m d t).length (.ok (.int (a % n)) (dh ns' m' d' t))) Q := fun a ns' m' d' hl' => by
    have e : (dh ns m d t).length = (dh ns' m' d' t).length := rfl
    rw [e, leave_id rfl]
    exact hq _ _ (Int.emod_nonneg a (Int.ne_of_gt hn)) (Int.emod_lt_of_pos a hn) ⟨ns', m', d', rfl, hl'⟩
  refine wp_runF ?_
  unfold m__law_draw
  simp only [startS, List.map, List.length, List.cons_append, List.nil_append, List.replicate]
  walk_at "ev"
  simp only [wp_ix ixD, wp_ix ixM, wp_ix ixC, setD, wp_addI, wp_mulI (a := 46399) (.inl ⟨by decide, by decide⟩), wp_ok, wp_mkLf (xs := []) (Nat.zero_le _), neC, Option.map_some, wp_ofO, blQ_bl]
  have tail : ∀ (a : Int) (ns' : List Int), ns'.length ≤ 63 → wp (bMul false (.int a) (.int 39373) (dh ns' m (d + 1) t)) fun x h => wp (bAdd false x (.int 209) h) fun x h => wp (bInt x h) fun x h => wp (bMod x (.int 2147483647) h) fun v h => wp (bMul false v v h) fun x h => wp (sIx (.ref 1) (.str "draws") h) fun y h => wp (bMul false (.int 50503) y h) fun y h =>
      wp (bAdd false x y h) fun x h => wp (bAdd false x (.int 509) h) fun x h => wp (bInt x h) fun x h => wp (bMod x (.int 2147483579) h) fun x h => wp (bMul false x (.int 48271) h) fun x h => wp (bInt x h) fun x h => wp (bMod x (.int 2147483549) h) fun x h => wp (bDiv x (.int 64) h) fun x h => wp (bInt x h) fun x h => wp (bMod x (.int n) h) fun v h' => wp (leave (List.length (dh ns m d t)) (.ok v h')) Q := fun a ns' hl' => by
    rw [wp_mulI (.inr ⟨by decide, by decide⟩), wp_addI, wp_intI, wp_modI (by decide), wp_mulI (.inl (small_mod (by decide) (by decide))), wp_ix ixD, wp_mulI (.inl ⟨by decide, by decide⟩), wp_addI, wp_addI, wp_intI, wp_modI (by decide), wp_mulI (.inr ⟨by decide, by decide⟩), wp_intI, wp_modI (by decide), wp_divI (div_ok (by decide) (by decide)), wp_intI, wp_modI hn]
    exact fin _ _ _ _ hl'
  by_cases hns : ns = []
  · rw [if_neg (by simp [hns])]
    exact tail _ _ hl
  · rw [if_pos (by simp [hns])]
    obtain ⟨xs, x, rfl⟩ := snoc_of hns
    rw [List.length_append, List.length_singleton] at hl
    refine ⟨rfl, ?_⟩
    rw [popC, wp_ok, wp_powI (by decide), wp_geI, blQ_bl]
    split
    · rw [wp_ix ixC]
      refine ⟨rfl, ?_⟩
      rw [wp_divI (div_ok (by omega) (by omega)), appC (by omega), wp_ok, wp_intI, wp_modI hn]
      exact fin _ _ _ _ (by rw [List.length_append, List.length_singleton]; omega)
    · rw [wp_intI, wp_modI (by decide), wp_addI]
      exact tail _ _ (by omega)
/-! ### ends of calls -/
mutual
theorem nrf_up {m n : Nat} (h : m ≤ n) : ∀ v : PV, nrf m v = true → nrf n v = true
  | .ref k, e => by unfold nrf at e ⊢; simp only [decide_eq_true_eq] at e ⊢; omega
  | .tup xs, e => by unfold nrf at e ⊢; exact nrfs_up h xs e
  | .lst xs, e => by unfold nrf at e ⊢; exact nrfs_up h xs e
  | .dK kvs, e => by unfold nrf at e ⊢; exact nrfk_up h kvs e
  | .dT _, e => by unfold nrf at e; cases e
  | .exc _ _, e => by unfold nrf at e; cases e
  | .non, _ => rfl
  | .bl _, _ => rfl
  | .int _, _ => rfl
  | .str _, _ => rfl
  | .set _, _ => rfl
  | .scr _, _ => rfl
  | .rng _ _, _ => rfl
  | .fn _, _ => rfl
  | .cb, _ => rfl
theorem nrfs_up {m n : Nat} (h : m ≤ n) : ∀ v : List PV, nrfs m v = true → nrfs n v = true
  | [], _ => rfl
  | v :: vs, e => by
    unfold nrfs at e ⊢
    rw [Bool.and_eq_true] at e ⊢
    exact ⟨nrf_up h v e.1, nrfs_up h vs e.2⟩
theorem nrfk_up {m n : Nat} (h : m ≤ n) : ∀ v : List (Key × PV), nrfk m v = true → nrfk n v = true
  | [], _ => rfl
  | (_, v) :: vs, e => by
    unfold nrfk at e ⊢
    rw [Bool.and_eq_true] at e ⊢
    exact ⟨nrf_up h v e.1, nrfk_up h vs e.2⟩
end
theorem leave_ok2 {n : Nat} {v : PV} {h : Hv} : leave n (.ok v h) = if (h.take n).all (nrfC n) = true then (if nrf n v = true then .ok v (h.take n) else match frzV n h 9 v with
    | some v' => .ok v' (h.take n)
    | none => .ok v h) else .ok v h := rfl
/-- the old cells name old cells alone -/
def Cl (t : List Cell) : Prop := t.all (nrfC (t.length + 2)) = true
theorem nrfs_ints (n : Nat) : ∀ ns : List Int, nrfs n (ns.map .int) = true
  | [] => rfl
  | _ :: ns => by
    show (true && nrfs n (ns.map .int)) = true
    rw [nrfs_ints n ns]
    rfl
theorem D.take {u : List Cell} {h' : Hv} (q : D t h) (q' : D (t ++ u) h') : D t (h'.take h.length) := by
  obtain ⟨ns', m', d', rfl, hl⟩ := q'
  rw [q.len]
  refine ⟨ns', m', d', ?_, hl⟩
  show List.take (t.length + 1 + 1) (_ :: _ :: (t ++ u)) = _
  rw [List.take_succ_cons, List.take_succ_cons, List.take_left]
  rfl
theorem D.all {t : List Cell} {h : Hv} (q : D t h) (ht : Cl t) : h.all (nrfC (t.length + 2)) = true := by
  obtain ⟨ns, m, d, rfl, _⟩ := q
  show (nrfs (t.length + 2) (ns.map .int) && (nrfk (t.length + 2) [(kC, .ref 0), (kM, .int m), (kD, .int d)] && t.all (nrfC (t.length + 2)))) = true
  rw [nrfs_ints, show t.all (nrfC (t.length + 2)) = true from ht]
  simp [nrfk, nrf]
/-- a call's end: its own cells go -/
theorem wp_leave {u : List Cell} {h' : Hv} {v : PV} (q : D t h) (ht : Cl t) (q' : D (t ++ u) h') (hv : nrf (t.length + 2) v = true) (hq : ∀ h2, D t h2 → Q v h2) : wp (leave h.length (.ok v h')) Q := by
  have qt := q.take q'
  have e : leave h.length (.ok v h') = .ok v (h'.take h.length) := by
    rw [leave_ok2, q.len] at *
    rw [if_pos (qt.all ht), if_pos hv]
  rw [e]
  exact hq _ qt
/-- a list's cell that comes out becomes a value -/
theorem wp_leaveL {u : List Cell} {h' : Hv} {k : Nat} {xs : List PV} (q : D t h) (ht : Cl t) (q' : D (t ++ u) h') (hk : t.length + 2 ≤ k) (hx : h'[k]? = some (.lst xs)) (hz : mapO (frzV (t.length + 2) h' 8) xs = some xs) (hq : ∀ h2, D t h2 → Q (.lst xs) h2) : wp (leave h.length (.ok (.ref k) h')) Q := by
  have qt := q.take q'
  have e : leave h.length (.ok (.ref k) h') = .ok (.lst xs) (h'.take h.length) := by
    have e1 : frzV (t.length + 2) h' 9 (.ref k) = some (.lst xs) := by
      show (if k < t.length + 2 then some (PV.ref k) else match h'[k]? with
        | some (.lst xs) => (mapO (frzV (t.length + 2) h' 8) xs).map .lst
        | some (.dK kvs) => (mapO (fun (p : Key × PV) => (frzV (t.length + 2) h' 8 p.2).map fun v => (p.1, v)) kvs).map .dK
        | _ => none) = _
      rw [if_neg (by omega), hx]
      simp only
      rw [hz]
      rfl
    rw [leave_ok2, q.len] at *
    rw [if_pos (qt.all ht), if_neg (by unfold nrf; simp; omega), e1]
  rw [e]
  exact hq _ qt
theorem frz_ints {n : Nat} {h' : Hv} : ∀ ns : List Int, mapO (frzV n h' 8) (ns.map .int) = some (ns.map .int)
  | [] => rfl
  | i :: ns => by
    have ih := frz_ints (n := n) (h' := h') ns
    unfold mapO
    simp only [List.map_cons]
    rw [ih]
    rfl
theorem Dnil (q : D t h) : D (t ++ []) h := by rw [List.append_nil]; exact q
/-- a new cell -/
theorem D.push {u : List Cell} {c : Cell} (q : D (t ++ u) h) : D (t ++ (u ++ [c])) (h ++ [c]) := by
  obtain ⟨ns, m, d, rfl, hl⟩ := q
  refine ⟨ns, m, d, ?_, hl⟩
  show _ :: _ :: ((t ++ u) ++ [c]) = _ :: _ :: (t ++ (u ++ [c]))
  rw [List.append_assoc]
/-- a cell looked up, written -/
theorem D.at_ {c : Cell} {u : List Cell} (q : D (t ++ c :: u) h) : h[t.length + 2]? = some c := by
  obtain ⟨ns, m, d, rfl, hl⟩ := q
  show (_ :: _ :: (t ++ c :: u))[t.length + 1 + 1]? = _
  rw [List.getElem?_cons_succ, List.getElem?_cons_succ, List.getElem?_append_right (Nat.le_refl _), Nat.sub_self]
  rfl
theorem D.put {c c' : Cell} {u : List Cell} (q : D (t ++ c :: u) h) : D (t ++ c' :: u) (setC h (t.length + 2) c') := by
  obtain ⟨ns, m, d, rfl, hl⟩ := q
  refine ⟨ns, m, d, ?_, hl⟩
  show (_ :: _ :: (t ++ c :: u)).set (t.length + 1 + 1) c' = _
  rw [List.set_cons_succ, List.set_cons_succ, List.set_append_right _ _ (Nat.le_refl _), Nat.sub_self]
  rfl
/-- one of several -/
theorem wp_pick {v : PV} {xs : List PV} (q : D t h) (ht : Cl t) (h1 : ∀ h, lenB h v = some xs.length) (h2 : ∀ h i, ixB h v (.int i) = L2.atI xs i) (h0 : xs ≠ []) (hl : xs.length < 1000000) (hx : ∀ x ∈ xs, nrf (t.length + 2) x = true) (hq : ∀ x h', x ∈ xs → D t h' → Q x h') : wp (c__law_pick [.ref 1, v] h) Q := by
  refine wp_runF ?_
  unfold m__law_pick
  simp only [startS, List.map, List.length, List.cons_append, List.nil_append, List.replicate]
  walk_at "ev"
  simp only [wp_len (h1 _)]
  have hp : 0 < xs.length := List.length_pos_iff.mpr h0
  refine wp_draw q (by show (0 : Int) < (xs.length : Int); omega) (by show ((xs.length : Int)) < 2 ^ 60; omega) (fun r h' r1 r2 q' => ?_) ht
  have hr : r < (xs.length : Int) := r2
  obtain ⟨k, rfl⟩ : ∃ k : Nat, r = (k : Int) := ⟨r.toNat, by omega⟩
  have hk : k < xs.length := by omega
  have e : ixB h' v (.int (k : Int)) = some xs[k] := by
    rw [h2]
    exact L2.atI_nat (List.getElem?_eq_getElem hk)
  rw [wp_ix e]
  exact wp_leave q ht (Dnil q') (hx _ (List.getElem_mem hk)) fun h2 q2 => hq _ _ (List.getElem_mem hk) q2
end
end K78
end HS
end
-- text k78p2
section
set_option Elab.async false
set_option linter.all false
set_option maxRecDepth 100000
set_option maxHeartbeats 4000000
namespace HS
open PySem PySem.Spec PyProof.Rows
namespace K78
local macro_rules | `(tactic| walk_at "ev") => `(tactic| simp only [wps_seq, wps_put, wps_asg, wps_par, wps_if, wps_ret, wps_expr, wps_nil, wps_for, wp_bin, wp_un, wp_cst, wp_c1, wp_c2, wp_or, wp_and, wp_not, wp_if, wp_tVal, wp_tBl, wp_tAnd, wp_tOr, wp_tNot, wp_truth, wp_chain, wp_all0, wp_all1, wp_tup, wp_lst, wp_call, wp_meth, wp_part, wp_noPart, wp_slice, wp_iSeq, wp_iEnum, wp_eComp, wp_ok, wp_ret, wp_ofO, eVar_0, eVar_s, blQ_bl, gNm_ev, gTp_ev, gAll_nil, gAll_cons, stO_some, wipe_nil, wipe_cons, List.set, wp_addI, wp_subI, wp_negI, wp_intI, wp_intB, wp_max, wp_min, wp_eqC, wp_neC, wp_ltI, wp_gtI, wp_leI, wp_geI, Option.map_some, Option.bind_some])
local macro_rules | `(tactic| walk_at "start") => `(tactic| simp only [startS, List.map, List.length, List.cons_append, List.nil_append, List.replicate])
section
variable {ns : List Int} {m d : Int} {t : List Cell} {Q : PV → Hv → Prop} {h : Hv}
theorem rgP_len (n : Int) : (rgP 0 n).length = n.toNat := by
  unfold rgP
  rw [List.length_map, List.length_range]
  omega
theorem rg_ok {n : Int} (h : n < 2 ^ 62) (h0 : 0 ≤ n) : rgOk 0 n := ⟨by decide, by decide, by omega, h⟩
/-- an ascending tuple of one to so many places -/
theorem wp_some {n most : Int} (q : D t h) (ht : Cl t) (hn : 0 < n) (hn2 : n < 2 ^ 60) (hm : 0 < most) (hm2 : most < 60) (hq : ∀ (mv : List Int) h', mv ≠ [] → mv.Pairwise (· < ·) → (∀ u ∈ mv, 0 ≤ u ∧ u < n) → D t h' → Q (.tup (mv.map .int)) h') : wp (c__law_some [.ref 1, .int n, .int most] h) Q := by
  refine wp_runF ?_
  unfold m__law_some
  walk_at "start"
  walk_at "ev"
  rw [wp_iRng1]
  walk_at "ev"
  refine wp_draw q hm (by omega) (fun r h1 r1 r2 q1 => ?_) ht
  refine ⟨rg_ok (by omega) (by omega), ?_⟩
  refine wp_comp0 (I := fun xs acc h => D t h ∧ ∃ is : List Int, acc = is.map .int ∧ is.length + xs.length = (1 + r).toNat ∧ ∀ u ∈ is, 0 ≤ u ∧ u < n) (rgP 0 (1 + r)) _ ?_ ?_ ⟨q1, [], rfl, by rw [rgP_len]; simp, by simp⟩
  · rintro x rest acc h2 ⟨q2, is, rfl, hl, hb⟩
    refine ⟨srcOk_nil, _, rfl, ?_⟩
    show wp (eCall c__law_draw [eVar 0, eVar 1] _ h2) _
    walk_at "ev"
    refine wp_draw q2 hn hn2 (fun r3 h3 a b q3 => ?_) ht
    refine ⟨q3, is ++ [r3], by simp, by rw [List.length_append]; simp only [List.length_cons, List.length_nil] at hl ⊢; omega, fun u hu => ?_⟩
    rcases List.mem_append.mp hu with hu | hu
    · exact hb u hu
    · rw [List.mem_singleton.mp hu]; exact ⟨a, b⟩
  · rintro acc h2 ⟨q2, is, rfl, hl, hb⟩
    refine ⟨srcOk_nil, ?_⟩
    have hl2 : is.length = (1 + r).toNat := by simpa using hl
    rw [wp_mkLf (by rw [List.length_map, hl2]; show _ ≤ 2 ^ 24; omega), wp_set (is := is) rfl (by omega), wp_sortS (by omega)]
    rw [wp_tuple rfl (by rw [List.length_map]; have := srtI_len is; show _ ≤ 2 ^ 24; omega)]
    refine wp_leave q ht (Dnil q2) (nrfs_ints _ _) fun h3 q3 => hq _ _ ?_ (srtI_asc _) (fun u hu => hb u ((srtI_mem _ _).mp hu)) q3
    intro e
    cases is with
    | nil => simp at hl2; omega
    | cons a as =>
      have : a ∈ srtI (a :: as) := (srtI_mem _ _).mpr (List.mem_cons_self ..)
      rw [e] at this
      cases this
/-- a drawn ascending tuple of places -/
theorem wp_subset {n : Int} (q : D t h) (ht : Cl t) (hn : 0 ≤ n) (hn2 : n < 1000) (hq : ∀ (mv : List Int) h', mv.Pairwise (· < ·) → (∀ u ∈ mv, 0 ≤ u ∧ u < n) → D t h' → Q (.tup (mv.map .int)) h') : wp (c__law_subset [.ref 1, .int n] h) Q := by
  refine wp_runF ?_
  unfold m__law_subset
  walk_at "start"
  walk_at "ev"
  rw [wp_iRng1]
  walk_at "ev"
  refine ⟨rg_ok (by omega) hn, ?_⟩
  have hrg : ∀ k : Nat, k ≤ n.toNat → (rgP 0 n).drop k = ((List.range n.toNat).drop k).map fun i : Nat => PV.int (i : Int) := fun k _ => by
    unfold rgP
    rw [← List.map_drop]
    simp
  refine wp_comp0 (I := fun xs acc h => D t h ∧ ∃ (k : Nat) (is : List Int), k ≤ n.toNat ∧ xs = (rgP 0 n).drop k ∧ acc = is.map .int ∧ is.length ≤ k ∧ is.Pairwise (· < ·) ∧ ∀ u ∈ is, 0 ≤ u ∧ u < (k : Int)) (rgP 0 n) _ ?_ ?_ ⟨q, 0, [], Nat.zero_le _, rfl, rfl, Nat.zero_le _, List.Pairwise.nil, by simp⟩
  · rintro x rest acc h2 ⟨q2, k, is, hk, hx, rfl, hl, ha, hb⟩
    rw [hrg k hk] at hx
    have hk2 : k < n.toNat := by
      have e := congrArg List.length hx
      rw [List.length_map, List.length_drop, List.length_range] at e
      simp only [List.length_cons] at e
      omega
    rw [List.drop_eq_getElem_cons (by rw [List.length_range]; exact hk2), List.map_cons, List.getElem_range] at hx
    obtain ⟨rfl, hr⟩ := List.cons.inj hx
    refine ⟨srcOk_nil, _, rfl, ?_⟩
    show wp (tBl (eBin cEq (eCall c__law_draw [eVar 0, eCst (.int 3)]) (eCst (.int 0))) _ h2) _
    walk_at "ev"
    refine wp_draw q2 (by decide) (by decide) (fun r3 h3 a b q3 => ?_) ht
    rw [eqB_int]
    walk_at "ev"
    have rest_ : rest = (rgP 0 n).drop (k + 1) := by rw [hrg (k + 1) hk2, hr]
    split
    · refine ⟨q3, k + 1, is ++ [(k : Int)], hk2, rest_, by simp, by rw [List.length_append]; simp; omega, ?_, fun u hu => ?_⟩
      · rw [List.pairwise_append]
        exact ⟨ha, List.pairwise_singleton _ _, fun x hx y hy => by rw [List.mem_singleton.mp hy]; exact (hb x hx).2⟩
      · rcases List.mem_append.mp hu with hu | hu
        · have := hb u hu; omega
        · rw [List.mem_singleton.mp hu]; omega
    · exact ⟨q3, k + 1, is, hk2, rest_, rfl, by omega, ha, fun u hu => by have := hb u hu; omega⟩
  · rintro acc h2 ⟨q2, k, is, hk, hx, rfl, hl, ha, hb⟩
    refine ⟨srcOk_nil, ?_⟩
    rw [wp_mkLf (by rw [List.length_map]; show _ ≤ 2 ^ 24; omega), wp_tuple rfl (by rw [List.length_map]; show _ ≤ 2 ^ 24; omega)]
    exact wp_leave q ht (Dnil q2) (nrfs_ints _ _) fun h3 q3 => hq _ _ ha (fun u hu => by have := hb u hu; omega) q3
end
end K78
end HS
end
-- text k78p3
section
set_option Elab.async false
set_option linter.all false
set_option maxRecDepth 100000
set_option maxHeartbeats 4000000
namespace HS
open PySem PySem.Spec PyProof.Rows
namespace K78
local macro_rules | `(tactic| walk_at "ev") => `(tactic| simp only [wps_seq, wps_put, wps_asg, wps_par, wps_if, wps_ret, wps_expr, wps_nil, wps_for, wp_bin, wp_un, wp_cst, wp_c1, wp_c2, wp_or, wp_and, wp_not, wp_if, wp_tVal, wp_tBl, wp_tAnd, wp_tOr, wp_tNot, wp_truth, wp_chain, wp_all0, wp_all1, wp_tup, wp_lst, wp_call, wp_meth, wp_part, wp_noPart, wp_slice, wp_iSeq, wp_iEnum, wp_eComp, wp_ok, wp_ret, wp_ofO, eVar_0, eVar_s, blQ_bl, gNm_ev, gTp_ev, gAll_nil, gAll_cons, stO_some, wipe_nil, wipe_cons, List.set, wp_addI, wp_subI, wp_negI, wp_intI, wp_intB, wp_max, wp_min, wp_eqC, wp_neC, wp_ltI, wp_gtI, wp_leI, wp_geI, Option.map_some, Option.bind_some])
local macro_rules | `(tactic| walk_at "start") => `(tactic| simp only [startS, List.map, List.length, List.cons_append, List.nil_append, List.replicate])
section
variable {ns : List Int} {m d : Int} {t : List Cell} {Q : PV → Hv → Prop} {h : Hv} {c c1 c2 c' : Cell}
theorem nrfC_up {m n : Nat} (h : m ≤ n) : ∀ c : Cell, nrfC m c = true → nrfC n c = true
  | .lst xs, e => nrfs_up h xs e
  | .dK kvs, e => nrfk_up h kvs e
  | .dT _, e => by cases e
  | .ins _ _, e => by cases e
theorem Cl.snoc (ht : Cl t) (hc : nrfC (t.length + 3) c = true) : Cl (t ++ [c]) := by
  unfold Cl at *
  rw [List.all_append, List.length_append, List.length_singleton]
  have e : t.length + 1 + 2 = t.length + 3 := by omega
  rw [e, Bool.and_eq_true]
  refine ⟨List.all_eq_true.mpr fun x hx => nrfC_up (by omega) x (List.all_eq_true.mp ht x hx), ?_⟩
  rw [List.all_cons, hc]
  rfl
theorem D.at1 (q : D (t ++ [c1, c2]) h) : h[t.length + 2]? = some c1 := q.at_
theorem D.at2 (q : D (t ++ [c1, c2]) h) : h[t.length + 3]? = some c2 := by
  have q2 : D ((t ++ [c1]) ++ c2 :: []) h := by rw [List.append_assoc]; exact q
  have e := q2.at_
  rw [List.length_append, List.length_singleton] at e
  exact e
theorem D.put1 (q : D (t ++ [c1, c2]) h) : D (t ++ [c', c2]) (setC h (t.length + 2) c') := q.put
theorem D.put2 (q : D (t ++ [c1, c2]) h) : D (t ++ [c1, c']) (setC h (t.length + 3) c') := by
  have q2 : D ((t ++ [c1]) ++ c2 :: []) h := by rw [List.append_assoc]; exact q
  have e := q2.put (c' := c')
  rw [List.length_append, List.length_singleton, List.append_assoc] at e
  exact e
theorem cell_of {k : Nat} {xs : List PV} (e : h[k]? = some (.lst xs)) : cellL h k = some xs := by unfold cellL; rw [e]
theorem recv_of {k : Nat} {xs : List PV} (e : h[k]? = some (.lst xs)) : recvL h (.ref k) = some (k, xs) := by
  show Option.map (fun xs => (k, xs)) (cellL h k) = _
  rw [cell_of e]
  rfl
theorem lst_of {k : Nat} {xs : List PV} (e : h[k]? = some (.lst xs)) : lstOf h (.ref k) = some xs := cell_of e
theorem len_of {k : Nat} {xs : List PV} (e : h[k]? = some (.lst xs)) : lenB h (.ref k) = some xs.length := by
  have e2 : seqOf h (.ref k) = some xs := cell_of e
  show (match seqOf h (.ref k) with
    | some xs => some xs.length
    | none => (dKOf h (.ref k)).map List.length) = _
  rw [e2]
theorem wp_app {k : Nat} {xs : List PV} {v : PV} (e : h[k]? = some (.lst xs)) (c : xs.length < sizeLine) : wp (mAppend (.ref k) [v] h) Q = Q .non (setC h k (.lst (xs ++ [v]))) := by
  unfold mAppend
  rw [recv_of e]
  simp only
  rw [if_pos c]
  rfl
theorem wp_popAt {k : Nat} {xs : List PV} {i : Nat} {v : PV} (e : h[k]? = some (.lst xs)) (ei : xs[i]? = some v) (c : i < 2 ^ 60) : wp (mPop (.ref k) [.int (i : Int)] h) Q = Q v (setC h k (.lst (xs.eraseIdx i))) := by
  have hi : i < xs.length := (List.getElem?_eq_some_iff.mp ei).1
  have es : seqIndex? (i : Int) xs.length = some i := by
    unfold seqIndex?
    simp
    omega
  unfold mPop
  rw [recv_of e]
  simp only
  rw [if_pos (by omega), es]
  simp only
  rw [ei]
  rfl
theorem map_erase {α β : Type} (f : α → β) : ∀ (l : List α) (i : Nat), (l.map f).eraseIdx i = (l.eraseIdx i).map f
  | [], _ => rfl
  | _ :: _, 0 => rfl
  | a :: l, i + 1 => congrArg (f a :: ·) (map_erase f l i)
theorem perm_erase {α : Type} : ∀ (l : List α) (i : Nat) (h : i < l.length), (l[i] :: l.eraseIdx i).Perm l
  | a :: l, 0, _ => .refl _
  | a :: l, i + 1, h => (List.Perm.swap a _ _).trans ((perm_erase l i (Nat.lt_of_succ_lt_succ h)).cons a)
/-- the places in a drawn order -/
theorem wp_order {n : Int} (q : D t h) (ht : Cl t) (hn : 0 ≤ n) (hn2 : n < 1000) (hq : ∀ (os : List Int) h', os.Perm ((List.range n.toNat).map fun i : Nat => (i : Int)) → D t h' → Q (.lst (os.map .int)) h') : wp (c__law_order [.ref 1, .int n] h) Q := by
  refine wp_runF ?_
  unfold m__law_order
  walk_at "start"
  walk_at "ev"
  have e1 : rgP 0 n = ((List.range n.toNat).map fun i : Nat => (i : Int)).map PV.int := by
    unfold rgP
    rw [List.map_map]
    simp
  have hlr : (rgP 0 n).length ≤ sizeLine := by rw [rgP_len]; show _ ≤ 2 ^ 24; omega
  have eL : bLstRg true (.int n) h = .ok (.ref h.length) (h ++ [.lst (rgP 0 n)]) := by
    show (if -(2 ^ 62) ≤ n ∧ n ≤ 16777216 then mkL true (rgP 0 n) h else .stuck) = _
    rw [if_pos (by omega)]
    unfold mkL
    rw [if_pos hlr]
    rfl
  rw [eL, wp_ok, wp_mkLt (by exact Nat.zero_le _)]
  have q1 : D (t ++ [.lst (((List.range n.toNat).map fun i : Nat => (i : Int)).map PV.int), .lst (([] : List Int).map .int)]) ((h ++ [.lst (rgP 0 n)]) ++ [.lst []]) := by
    rw [← e1]
    exact (Dnil q).push.push
  rw [q.len, List.length_append, q.len, List.length_singleton]
  try walk_at "ev"
  rw [wp_iRng1]
  walk_at "ev"
  refine ⟨rg_ok (by omega) hn, ?_⟩
  refine wps_forL (I := fun xs σ h => ∃ (ls fs : List Int) (x : Option PV), σ = [some (.ref 1), some (.int n), some (.ref (t.length + 2)), some (.ref (t.length + 2 + 1)), x] ∧ D (t ++ [.lst (ls.map .int), .lst (fs.map .int)]) h ∧ ls.length = xs.length ∧ (fs ++ ls).Perm ((List.range n.toNat).map fun i : Nat => (i : Int)) ∧ xs.length ≤ n.toNat) (rgP 0 n) _ _ ?_ ?_ ⟨_, [], none, rfl, q1, by rw [e1]; simp, .refl _, by rw [rgP_len]; exact Nat.le_refl _⟩
  · rintro x rest σ h2 ⟨ls, fs, x0, rfl, q2, hl, hp, hle⟩
    refine ⟨srcOk_nil, _, rfl, ?_⟩
    have hlen : 0 < ls.length := by rw [hl]; exact Nat.succ_pos _
    have hl2 : ls.length ≤ n.toNat := by rw [hl]; exact hle
    have hfl : fs.length ≤ n.toNat := by
      have := hp.length_eq
      rw [List.length_append, List.length_map, List.length_range] at this
      omega
    walk_at "ev"
    refine ⟨by rw [recv_of q2.at2]; rfl, by rw [recv_of q2.at1]; rfl, ?_⟩
    rw [wp_len (len_of q2.at1)]
    have hc : Cl (t ++ [.lst (ls.map .int), .lst (fs.map .int)]) := by
      have a := Cl.snoc (c := .lst (ls.map .int)) ht (nrfs_ints _ _)
      have b := Cl.snoc (c := .lst (fs.map .int)) a (nrfs_ints _ _)
      rw [List.append_assoc] at b
      exact b
    refine wp_draw q2 (by show (0 : Int) < ((ls.map PV.int).length : Int); rw [List.length_map]; omega) (by show (((ls.map PV.int).length : Nat) : Int) < 2 ^ 60; rw [List.length_map]; omega) (fun r h3 a b q3 => ?_) hc
    have b : r < ((ls.map PV.int).length : Int) := b
    rw [List.length_map] at b
    obtain ⟨i, rfl⟩ : ∃ i : Nat, r = (i : Int) := ⟨r.toNat, by omega⟩
    have hi : i < ls.length := by omega
    have ei : (ls.map PV.int)[i]? = some (.int ls[i]) := by rw [List.getElem?_map, List.getElem?_eq_getElem hi]; rfl
    rw [wp_popAt q3.at1 ei (by omega)]
    have q4 := q3.put1 (c' := .lst ((ls.map PV.int).eraseIdx i))
    rw [wp_app q4.at2 (by rw [List.length_map]; show _ < 2 ^ 24; omega)]
    have q5 := q4.put2 (c' := .lst (fs.map .int ++ [.int ls[i]]))
    have e2 : (ls.map PV.int).eraseIdx i = (ls.eraseIdx i).map PV.int := map_erase _ _ _
    have e3 : fs.map PV.int ++ [.int ls[i]] = (fs ++ [ls[i]]).map PV.int := by simp
    rw [e2, e3] at q5
    rw [e2, e3]
    refine ⟨ls.eraseIdx i, fs ++ [ls[i]], some x, rfl, q5, ?_, ?_, by simp only [List.length_cons] at hle; omega⟩
    · rw [List.length_eraseIdx_of_lt hi, hl]
      rfl
    · refine List.Perm.trans ?_ hp
      rw [List.append_assoc]
      refine List.Perm.append_left fs ?_
      exact perm_erase _ _ hi
  · rintro σ h2 ⟨ls, fs, x0, rfl, q2, hl, hp, hle⟩
    refine ⟨srcOk_nil, ?_⟩
    have hls : ls = [] := List.eq_nil_of_length_eq_zero hl
    subst hls
    rw [List.append_nil] at hp
    walk_at "ev"
    have z := wp_leaveL (Q := Q) q ht q2 (by omega) q2.at2 (frz_ints fs) fun h3 q3 => hq _ _ hp q3
    rw [q.len] at z
    exact z
end
end K78
end HS
end
-- text k78p4
section
set_option Elab.async false
set_option linter.all false
set_option maxRecDepth 100000
set_option maxHeartbeats 4000000
namespace HS
open PySem PySem.Spec PyProof.Rows
/-! ### games as they are drawn -/
structure Row where
  k : Bool
  mark : Int
  mv : List Int
  sl : List (Int × Int)
def own (k : Bool) : Str := if k then "keeper" else "foe"
def Row.v (r : Row) : PV := .tup [.str (own r.k), .int r.mark, .tup (r.mv.map .int), .tup (r.sl.map pairV)]
def gameV (g : List Row) : PV := .tup (g.map Row.v)
structure RowOk (n W : Int) (r : Row) : Prop where
  mr : 0 ≤ r.mark ∧ r.mark ≤ 6
  ne : r.mv ≠ []
  ma : r.mv.Pairwise (· < ·)
  mb : ∀ u ∈ r.mv, 0 ≤ u ∧ u < n
  sa : (r.sl.map (·.1)).Pairwise (· < ·)
  sb : ∀ p ∈ r.sl, 0 ≤ p.1 ∧ p.1 < n ∧ 1 ≤ p.2 ∧ p.2 ≤ W
  foe : r.k = false → r.sl = []
structure GameOk (W : Int) (g : List Row) : Prop where
  ne : g ≠ []
  row : ∀ r ∈ g, RowOk g.length W r
theorem asc_len {n : Nat} : ∀ {l : List Int} {a : Int}, l.Pairwise (· < ·) → (∀ u ∈ l, a ≤ u ∧ u < a + n) → l.length ≤ n
  | [], _, _, _ => Nat.zero_le _
  | x :: l, a, h, b => by
    have hx := b x (List.mem_cons_self ..)
    have h' := List.pairwise_cons.mp h
    cases n with
    | zero => omega
    | succ n =>
      have := asc_len (n := n) (a := a + 1) h'.2 fun u hu => by
        have h1 := h'.1 u hu
        have h2 := b u (List.mem_cons_of_mem _ hu)
        omega
      exact Nat.succ_le_succ this
/-- renumbered -/
def Row.rn (f : Int → Int) (r : Row) : Row := ⟨r.k, r.mark, srt (r.mv.map f), srt2 (r.sl.map fun p => (f p.1, p.2))⟩
theorem nodup_map {α β : Type} {f : α → β} {l : List α} (h : l.Nodup) (inj : ∀ a ∈ l, ∀ b ∈ l, f a = f b → a = b) : (l.map f).Nodup := by
  induction l with
  | nil => exact List.nodup_nil
  | cons x l ih =>
    have h' := List.nodup_cons.mp h
    rw [List.map_cons, List.nodup_cons]
    refine ⟨fun z => ?_, ih h'.2 fun a ha b hb => inj a (List.mem_cons_of_mem _ ha) b (List.mem_cons_of_mem _ hb)⟩
    obtain ⟨y, hy, e⟩ := List.mem_map.mp z
    have := inj y (List.mem_cons_of_mem _ hy) x (List.mem_cons_self ..) e
    exact h'.1 (this ▸ hy)
theorem pw_ne {α : Type} {f : α → Int} : ∀ {l : List α}, l.Pairwise (fun p q => f p ≠ f q) → ∀ a ∈ l, ∀ b ∈ l, f a = f b → a = b
  | [], _, a, ha, _, _, _ => by cases ha
  | x :: l, h, a, ha, b, hb, e => by
    have h' := List.pairwise_cons.mp h
    rcases List.mem_cons.mp ha with e1 | ha2
    · rcases List.mem_cons.mp hb with e2 | hb2
      · rw [e1, e2]
      · rw [e1] at e
        exact absurd e (h'.1 b hb2)
    · rcases List.mem_cons.mp hb with e2 | hb2
      · rw [e2] at e
        exact absurd e.symm (h'.1 a ha2)
      · exact pw_ne h'.2 a ha2 b hb2 e
theorem RowOk.rn {n W : Int} {r : Row} {f : Int → Int} (h : RowOk n W r) (fb : ∀ u, 0 ≤ u → u < n → 0 ≤ f u ∧ f u < n) (inj : ∀ u v, 0 ≤ u → u < n → 0 ≤ v → v < n → f u = f v → u = v) : RowOk n W (r.rn f) where
  mr := h.mr
  ne := fun z => h.ne (by
    have e := (srt_perm (r.mv.map f)).length_eq
    rw [show srt (r.mv.map f) = [] from z, List.length_nil, List.length_map] at e
    exact List.eq_nil_of_length_eq_zero e.symm)
  ma := srt_strict (nodup_map (h.ma.imp fun h => Int.ne_of_lt h) fun a ha b hb e => inj a b (h.mb a ha).1 (h.mb a ha).2 (h.mb b hb).1 (h.mb b hb).2 e)
  mb := fun u hu => by
    obtain ⟨x, hx, rfl⟩ := List.mem_map.mp ((srt_perm (r.mv.map f)).mem_iff.mp hu)
    exact fb x (h.mb x hx).1 (h.mb x hx).2
  sa := by
    refine srt2_strict ?_
    rw [List.map_map]
    have e : ((fun p : Int × Int => p.1) ∘ fun p : Int × Int => (f p.1, p.2)) = fun p => f p.1 := rfl
    rw [e]
    have hn : r.sl.Nodup := by
      have q : r.sl.Pairwise fun p q => p.1 < q.1 := List.pairwise_map.mp h.sa
      exact q.imp fun h e => by rw [e] at h; exact absurd h (Int.lt_irrefl _)
    refine nodup_map hn fun a ha b hb e => ?_
    have h1 := h.sb a ha
    have h2 := h.sb b hb
    have e1 := inj a.1 b.1 h1.1 h1.2.1 h2.1 h2.2.1 e
    have q : r.sl.Pairwise fun p q => p.1 < q.1 := List.pairwise_map.mp h.sa
    exact pw_ne (q.imp fun h => Int.ne_of_lt h) a ha b hb e1
  sb := fun p hp => by
    obtain ⟨x, hx, rfl⟩ := List.mem_map.mp ((srt2_perm _).mem_iff.mp hp)
    have h1 := h.sb x hx
    exact ⟨(fb _ h1.1 h1.2.1).1, (fb _ h1.1 h1.2.1).2, h1.2.2⟩
  foe := fun e => by
    have z := h.foe e
    show srt2 (r.sl.map _) = []
    rw [z]
    have e := (srt2_perm ([] : List (Int × Int))).length_eq
    exact List.eq_nil_of_length_eq_zero e
/-- where each place stands in a row -/
def spotF (k : Int) : List Int → List (Key × PV)
  | [] => []
  | o :: os => (.inl o, .int k) :: spotF (k + 1) os
def posF : List Int → Int → Int
  | [], _ => 0
  | o :: os, u => if o = u then 0 else 1 + posF os u
theorem posF_b : ∀ {os : List Int} {u : Int}, u ∈ os → 0 ≤ posF os u ∧ posF os u < os.length
  | o :: os, u, h => by
    unfold posF
    split
    · simp only [List.length_cons]; omega
    · rename_i ne
      have h2 : u ∈ os := (List.mem_cons.mp h).resolve_left fun e => ne e.symm
      have := posF_b h2
      simp only [List.length_cons]
      omega
theorem posF_inj : ∀ {os : List Int} {u v : Int}, u ∈ os → v ∈ os → posF os u = posF os v → u = v
  | o :: os, u, v, hu, hv, e => by
    unfold posF at e
    split at e
    · rename_i h1
      split at e
      · rename_i h2
        exact h1.symm.trans h2
      · rename_i h2
        have := posF_b ((List.mem_cons.mp hv).resolve_left fun e => h2 e.symm)
        omega
    · rename_i h1
      have hu2 := (List.mem_cons.mp hu).resolve_left fun e => h1 e.symm
      split at e
      · have := posF_b hu2
        omega
      · rename_i h2
        exact posF_inj hu2 ((List.mem_cons.mp hv).resolve_left fun e => h2 e.symm) (by omega)
theorem spot_val : ∀ {os : List Int} {u k : Int}, u ∈ os → valOf (spotF k os) (.inl u : Key) = some (.int (k + posF os u))
  | o :: os, u, k, h => by
    unfold spotF posF valOf
    by_cases e : o = u
    · subst e
      simp
    · have h2 : u ∈ os := (List.mem_cons.mp h).resolve_left fun e2 => e e2.symm
      have ih := spot_val (k := k + 1) h2
      unfold valOf at ih
      rw [List.find?_cons_of_neg (by simp [e]), ih, if_neg e]
      congr 2
      omega
theorem spot_keys : ∀ (os : List Int) (k : Int), (spotF k os).map (·.1) = os.map Sum.inl
  | [], _ => rfl
  | o :: os, k => congrArg (_ :: ·) (spot_keys os (k + 1))
theorem pairUp_id (kvs : List (Key × PV)) (h : (kvs.map (·.1)).Nodup) : pairUp kvs = kvs := by
  have go : ∀ (l acc : List (Key × PV)), ((acc ++ l).map (·.1)).Nodup → l.foldl (fun acc kv => putOf acc kv.1 kv.2) acc = acc ++ l := by
    intro l
    induction l with
    | nil => intro acc _; simp
    | cons x l ih =>
      intro acc hn
      have e : putOf acc x.1 x.2 = acc ++ [x] := by
        unfold putOf
        rw [if_neg]
        intro z
        unfold valOf at z
        cases q : acc.find? fun kv => decide (kv.1 = x.1) with
        | none => rw [q] at z; cases z
        | some y =>
          have h1 := List.mem_of_find?_eq_some q
          have h2 := of_decide_eq_true (p := y.1 = x.1) (List.find?_some (p := fun kv : Key × PV => decide (kv.1 = x.1)) q)
          rw [List.map_append, List.map_cons] at hn
          have h3 := (List.nodup_append.mp hn).2.2 y.1 (List.mem_map_of_mem h1) x.1 (List.mem_cons_self ..)
          exact h3 h2
      rw [List.foldl_cons, e, ih (acc ++ [x]) (by rw [List.append_assoc]; exact hn), List.append_assoc]
      rfl
  have := go kvs [] (by simpa using h)
  simpa [pairUp] using this
end HS
end
-- text k78p5
section
set_option Elab.async false
set_option linter.all false
set_option maxRecDepth 100000
set_option maxHeartbeats 4000000
namespace HS
open PySem PySem.Spec PyProof.Rows
namespace K78
local macro_rules | `(tactic| walk_at "ev") => `(tactic| simp only [wps_seq, wps_put, wps_asg, wps_par, wps_if, wps_ret, wps_expr, wps_nil, wps_for, wp_bin, wp_un, wp_cst, wp_c1, wp_c2, wp_or, wp_and, wp_not, wp_if, wp_tVal, wp_tBl, wp_tAnd, wp_tOr, wp_tNot, wp_truth, wp_chain, wp_all0, wp_all1, wp_tup, wp_lst, wp_call, wp_meth, wp_part, wp_noPart, wp_slice, wp_iSeq, wp_iEnum, wp_eComp, wp_ok, wp_ret, wp_ofO, eVar_0, eVar_s, blQ_bl, gNm_ev, gTp_ev, gAll_nil, gAll_cons, stO_some, wipe_nil, wipe_cons, List.set, wp_addI, wp_subI, wp_negI, wp_intI, wp_intB, wp_max, wp_min, wp_eqC, wp_neC, wp_ltI, wp_gtI, wp_leI, wp_geI, Option.map_some, Option.bind_some])
local macro_rules | `(tactic| walk_at "start") => `(tactic| simp only [startS, List.map, List.length, List.cons_append, List.nil_append, List.replicate])
section
variable {ns : List Int} {m d : Int} {t : List Cell} {Q : PV → Hv → Prop} {h : Hv} {c c1 c2 c' : Cell}
theorem wp.to_eq {α : Type} {r : Res α} {v : α} (p : wp r fun a h' => a = v ∧ h' = h) : r = .ok v h := by
  obtain ⟨a, h', e, e1, e2⟩ := p.eq
  rw [e, e1, e2]
theorem seqS_lst {xs : List PV} : seqS h (.lst xs) = some (xs, []) := rfl
theorem seqS_tup {xs : List PV} : seqS h (.tup xs) = some (xs, []) := rfl
def enumR (k : Int) : List PV → List PV
  | [] => []
  | o :: os => .tup [.int k, o] :: enumR (k + 1) os
theorem enumR_len : ∀ (os : List PV) (k : Int), (enumR k os).length = os.length
  | [], _ => rfl
  | _ :: os, k => congrArg (· + 1) (enumR_len os (k + 1))
theorem enumR_get : ∀ (os : List PV) (k : Int) (i : Nat) (h : i < os.length), (enumR k os)[i]'(by rw [enumR_len]; exact h) = .tup [.int (k + i), os[i]]
  | o :: os, k, 0, _ => by simp [enumR]
  | o :: os, k, i + 1, h => by
    have q := enumR_get os (k + 1) i (Nat.lt_of_succ_lt_succ h)
    simp only [enumR, List.getElem_cons_succ]
    rw [q]
    congr 3
    omega
theorem enumP_eq (os : List PV) : enumP os = enumR 0 os := by
  unfold enumP
  refine List.ext_getElem (by rw [List.length_map, List.length_range, enumR_len]) fun i h1 h2 => ?_
  rw [List.length_map, List.length_range] at h1
  rw [enumR_get os 0 i h1, List.getElem_map, List.getElem_range, List.getD_eq_getElem?_getD, List.getElem?_eq_getElem h1]
  simp
def swapP : PV → PV
  | .tup [a, b] => .tup [b, a]
  | v => v
theorem pairs_spot : ∀ (os : List Int) (k : Int), pairsOf ((enumR k (os.map .int)).map swapP) = some (spotF k os)
  | [], _ => rfl
  | o :: os, k => by
    have ih := pairs_spot os (k + 1)
    show (match pairOf (.tup [.int o, .int k]), pairsOf ((enumR (k + 1) (os.map .int)).map swapP) with
      | some p, some ps => some (p :: ps)
      | _, _ => none) = _
    rw [ih]
    rfl
instance : Inhabited Row := ⟨⟨true, 0, [], []⟩⟩
def gAt (g : List Row) (v : Int) : Row := g.getD v.toNat default
theorem gAt_mem {g : List Row} {v : Int} (h0 : 0 ≤ v) (h1 : v < g.length) : gAt g v ∈ g := by
  unfold gAt
  rw [List.getD_eq_getElem?_getD, List.getElem?_eq_getElem (by omega)]
  exact List.getElem_mem _
theorem ix_game {g : List Row} {v : Int} (h0 : 0 ≤ v) (h1 : v < g.length) : ixB h (gameV g) (.int v) = some (gAt g v).v := by
  obtain ⟨i, rfl⟩ : ∃ i : Nat, v = (i : Int) := ⟨v.toNat, by omega⟩
  have hi : i < g.length := by omega
  show L2.atI (g.map Row.v) (i : Int) = _
  refine L2.atI_nat ?_
  rw [List.getElem?_map, List.getElem?_eq_getElem hi]
  unfold gAt
  rw [List.getD_eq_getElem?_getD, Int.toNat_natCast, List.getElem?_eq_getElem hi]
  rfl
theorem ix_spot {kvs : List (Key × PV)} {u : Int} {v : PV} (e : valOf kvs (.inl u : Key) = some v) : ixB h (.dK kvs) (.int u) = some v := e
theorem range_mem {n : Nat} {v : Int} : v ∈ (List.range n).map (fun i : Nat => (i : Int)) ↔ 0 ≤ v ∧ v < n := by
  rw [List.mem_map]
  constructor
  · rintro ⟨i, hi, rfl⟩
    rw [List.mem_range] at hi
    omega
  · rintro ⟨a, b⟩
    exact ⟨v.toNat, List.mem_range.mpr (by omega), by omega⟩
/-- the rows in a new order -/
def rnG (g : List Row) (os : List Int) : List Row := os.map fun v => (gAt g v).rn (posF os)
theorem rn_ok {W : Int} {g : List Row} {os : List Int} (hg : GameOk W g) (hp : os.Perm ((List.range g.length).map fun i : Nat => (i : Int))) : GameOk W (rnG g os) ∧ (rnG g os).length = g.length := by
  have hl : (rnG g os).length = g.length := by
    unfold rnG
    rw [List.length_map, hp.length_eq, List.length_map, List.length_range]
  have hol : os.length = g.length := by rw [hp.length_eq, List.length_map, List.length_range]
  have hm : ∀ v, v ∈ os ↔ 0 ≤ v ∧ v < g.length := fun v => hp.mem_iff.trans range_mem
  refine ⟨⟨fun z => hg.ne (List.eq_nil_of_length_eq_zero (by rw [← hl, z]; rfl)), fun r hr => ?_⟩, hl⟩
  obtain ⟨v, hv, rfl⟩ := List.mem_map.mp hr
  rw [hl]
  have h1 := (hm v).mp hv
  refine (hg.row _ (gAt_mem h1.1 h1.2)).rn (fun u a b => ?_) fun u v a b c d e => posF_inj ((hm u).mpr ⟨a, b⟩) ((hm v).mpr ⟨c, d⟩) e
  have := posF_b ((hm u).mpr ⟨a, b⟩)
  rw [hol] at this
  exact this
theorem nrfs_each {n : Nat} : ∀ {l : List PV}, (∀ v ∈ l, nrf n v = true) → nrfs n l = true
  | [], _ => rfl
  | v :: l, h => by
    unfold nrfs
    rw [h v (List.mem_cons_self ..), nrfs_each fun u hu => h u (List.mem_cons_of_mem _ hu)]
    rfl
theorem nrfs_pairs (n : Nat) (l : List (Int × Int)) : nrfs n (l.map pairV) = true := nrfs_each fun v hv => by
  obtain ⟨p, _, rfl⟩ := List.mem_map.mp hv
  rfl
theorem nrf_row (n : Nat) (r : Row) : nrf n r.v = true := by
  show nrfs n [.str (own r.k), .int r.mark, .tup (r.mv.map .int), .tup (r.sl.map pairV)] = true
  simp [nrfs, nrf, nrfs_ints, nrfs_pairs]
theorem nrf_game (n : Nat) (g : List Row) : nrf n (gameV g) = true := nrfs_each fun v hv => by
  obtain ⟨r, _, rfl⟩ := List.mem_map.mp hv
  exact nrf_row n r
theorem wp_renumbered {W : Int} {g : List Row} {os : List Int} (q : D t h) (ht : Cl t) (hg : GameOk W g) (hgl : g.length < 1000) (hp : os.Perm ((List.range g.length).map fun i : Nat => (i : Int))) (hq : ∀ h', D t h' → Q (gameV (rnG g os)) h') : wp (c__law_renumbered [gameV g, .lst (os.map .int)] h) Q := by
  have hol : os.length = g.length := by rw [hp.length_eq, List.length_map, List.length_range]
  have hm : ∀ v, v ∈ os ↔ 0 ≤ v ∧ v < g.length := fun v => hp.mem_iff.trans range_mem
  have hnd : os.Nodup := hp.nodup_iff.mpr (nodup_map List.nodup_range fun a _ b _ e => by omega)
  refine wp_runF ?_
  unfold m__law_renumbered
  walk_at "start"
  walk_at "ev"
  rw [seqS_lst]
  walk_at "ev"
  rw [comp_map (f := swapP) srcOk_nil _ fun x hx => ?_]
  · walk_at "ev"
    rw [wp_mkLf (by rw [List.length_map, enumP_eq, enumR_len, List.length_map]; show _ ≤ 2 ^ 24; omega)]
    have eD : bDict false (.lst ((enumP (os.map .int)).map swapP)) h = .ok (.dK (spotF 0 os)) h := by
      show (match pairsOf ((enumP (os.map .int)).map swapP) with
        | some kvs => mkK false (pairUp kvs) h
        | none => .stuck) = _
      rw [enumP_eq, pairs_spot]
      simp only
      rw [pairUp_id _ (by rw [spot_keys]; exact nodup_map hnd fun a _ b _ e => Sum.inl.inj e)]
      unfold mkK
      have e : (spotF 0 os).length = os.length := by
        have := congrArg List.length (spot_keys os 0)
        simpa using this
      rw [if_pos (by rw [e]; show _ ≤ 2 ^ 24; omega)]
      rfl
    rw [eD]
    walk_at "ev"
    rw [wp_mkLt (by exact Nat.zero_le _)]
    have q1 : D (t ++ [.lst (([] : List Row).map Row.v)]) (h ++ [.lst []]) := (Dnil q).push
    rw [q.len, seqS_lst]
    walk_at "ev"
    refine wps_forL (I := fun xs σ h2 => ∃ (k : Nat) (x4 x5 x6 x7 x8 : Option PV), k ≤ os.length ∧ xs = (os.map PV.int).drop k ∧ σ = [some (gameV g), some (.lst (os.map .int)), some (.dK (spotF 0 os)), some (.ref (t.length + 2)), x4, x5, x6, x7, x8, none, none, none] ∧ D (t ++ [.lst (((rnG g os).take k).map Row.v)]) h2) (os.map .int) _ _ ?_ ?_ ⟨0, none, none, none, none, none, Nat.zero_le _, rfl, rfl, q1⟩
    · rintro x rest σ h2 ⟨k, x4, x5, x6, x7, x8, hk, hx, rfl, q2⟩
      have hk2 : k < os.length := by
        have e := congrArg List.length hx
        rw [List.length_drop, List.length_map] at e
        simp only [List.length_cons] at e
        omega
      rw [List.drop_eq_getElem_cons (by rw [List.length_map]; exact hk2), List.getElem_map] at hx
      obtain ⟨rfl, rfl⟩ := List.cons.inj hx
      have hv := (hm os[k]).mp (List.getElem_mem hk2)
      refine ⟨srcOk_nil, _, rfl, ?_⟩
      walk_at "ev"
      rw [wp_ix (ix_game hv.1 hv.2)]
      have hr := hg.row _ (gAt_mem hv.1 hv.2)
      show stO (gTp _ (Row.v _) _) _ _
      unfold Row.v
      walk_at "ev"
      refine ⟨by rw [recv_of q2.at_]; rfl, ?_⟩
      rw [seqS_tup]
      walk_at "ev"
      rw [comp_map (f := fun x => match x with
        | .int u => .int (posF os u)
        | v => v) srcOk_nil _ fun x hx => ?_]
      · walk_at "ev"
        have e1 : ((gAt g os[k]).mv.map PV.int).map (fun x => match x with
          | .int u => PV.int (posF os u)
          | v => v) = ((gAt g os[k]).mv.map (posF os)).map PV.int := by simp
        have hml : (gAt g os[k]).mv.length ≤ g.length := asc_len (a := 0) hr.ma fun u hu => by have := hr.mb u hu; omega
        rw [e1, wp_mkLf (by rw [List.length_map, List.length_map]; show _ ≤ 2 ^ 24; omega), wp_sortI rfl (by rw [List.length_map]; show _ ≤ 2 ^ 24; omega), wp_tuple rfl (by rw [List.length_map, (srt_perm _).length_eq, List.length_map]; show _ ≤ 2 ^ 24; omega), seqS_tup]
        walk_at "ev"
        rw [comp_map (f := fun x => match x with
          | .tup [.int u, w] => .tup [.int (posF os u), w]
          | v => v) srcOk_nil _ fun x hx => ?_]
        · walk_at "ev"
          have e2 : ((gAt g os[k]).sl.map pairV).map (fun x => match x with
            | .tup [.int u, w] => PV.tup [.int (posF os u), w]
            | v => v) = ((gAt g os[k]).sl.map fun p => (posF os p.1, p.2)).map pairV := by simp [pairV]
          have hsl : (gAt g os[k]).sl.length ≤ g.length := by
            have := asc_len (n := g.length) (a := 0) hr.sa fun u hu => by
              obtain ⟨p, hp, rfl⟩ := List.mem_map.mp hu
              have := hr.sb p hp
              omega
            rw [List.length_map] at this
            exact this
          rw [e2, wp_mkLf (by rw [List.length_map, List.length_map]; show _ ≤ 2 ^ 24; omega), wp_sortP rfl (by rw [List.length_map]; show _ ≤ 2 ^ 24; omega), wp_tuple rfl (by rw [List.length_map, (srt2_perm _).length_eq, List.length_map]; show _ ≤ 2 ^ 24; omega), wp_mkT4]
          rw [wp_app q2.at_ (by rw [List.length_map, List.length_take]; show _ < 2 ^ 24; omega)]
          have hrl : (rnG g os).length = os.length := List.length_map _
          have e3 : ((rnG g os).take k).map Row.v ++ [.tup [.str (own (gAt g os[k]).k), .int (gAt g os[k]).mark, .tup ((srt ((gAt g os[k]).mv.map (posF os))).map .int), .tup ((srt2 ((gAt g os[k]).sl.map fun p => (posF os p.1, p.2))).map pairV)]] = ((rnG g os).take (k + 1)).map Row.v := by
            rw [List.take_succ_eq_append_getElem (by rw [hrl]; exact hk2), List.map_append]
            congr 1
            unfold rnG
            rw [List.getElem_map]
            rfl
          rw [e3]
          exact ⟨k + 1, _, _, _, _, _, hk2, rfl, rfl, q2.put⟩
        · obtain ⟨p, hp2, rfl⟩ := List.mem_map.mp hx
          refine ⟨_, rfl, wp.to_eq ?_⟩
          show wp (eTup _ _ _) _
          have hpm := hr.sb p hp2
          walk_at "ev"
          rw [wp_ix (ix_spot (spot_val ((hm p.1).mpr ⟨hpm.1, hpm.2.1⟩))), wp_mkT2]
          simp [pairV]
      · obtain ⟨u, hu, rfl⟩ := List.mem_map.mp hx
        refine ⟨_, rfl, wp.to_eq ?_⟩
        have hpm := hr.mb u hu
        walk_at "ev"
        rw [wp_ix (ix_spot (spot_val ((hm u).mpr hpm)))]
        simp
    · rintro σ h2 ⟨k, x4, x5, x6, x7, x8, hk, hx, rfl, q2⟩
      have hk2 : k = os.length := by
        have e := congrArg List.length hx
        rw [List.length_drop, List.length_map] at e
        simp only [List.length_nil] at e
        omega
      subst hk2
      have hrl : (rnG g os).length = os.length := List.length_map _
      rw [← hrl, List.take_length] at q2
      refine ⟨srcOk_nil, ?_⟩
      walk_at "ev"
      rw [wp_tuple (lst_of q2.at_) (by rw [List.length_map, hrl]; show _ ≤ 2 ^ 24; omega)]
      have z := wp_leave (Q := Q) (v := gameV (rnG g os)) q ht q2 (nrf_game _ _) hq
      rw [q.len] at z
      exact z
  · rw [enumP_eq] at hx
    obtain ⟨i, hi, rfl⟩ := List.mem_iff_getElem.mp hx
    rw [enumR_len] at hi
    rw [enumR_get _ _ _ hi]
    refine ⟨_, rfl, wp.to_eq ?_⟩
    walk_at "ev"
    rw [wp_mkT2]
    exact ⟨rfl, rfl⟩
end
end K78
end HS
end
-- text k78p6
section
set_option Elab.async false
set_option linter.all false
set_option maxRecDepth 100000
set_option maxHeartbeats 8000000
namespace HS
open PySem PySem.Spec PyProof.Rows
/-! ### dicts from ints to ints -/
def encD (l : List (Int × Int)) : List (Key × PV) := l.map fun p => ((Sum.inl p.1 : Key), PV.int p.2)
def putD (l : List (Int × Int)) (k w : Int) : List (Int × Int) := if k ∈ l.map (·.1) then l.map fun p => if p.1 = k then (p.1, w) else p else l ++ [(k, w)]
theorem val_enc : ∀ (l : List (Int × Int)) (k : Int), (valOf (encD l) (.inl k : Key)).isSome = decide (k ∈ l.map (·.1))
  | [], _ => rfl
  | p :: l, k => by
    have ih := val_enc l k
    unfold valOf encD at *
    rw [List.map_cons, List.map_cons]
    by_cases e : p.1 = k
    · rw [List.find?_cons_of_pos (by simp [e])]
      simp [e]
    · rw [List.find?_cons_of_neg (by simp [e]), ih]
      have e2 : ¬ k = p.1 := fun z => e z.symm
      simp [e2]
theorem put_enc (l : List (Int × Int)) (k w : Int) : putOf (encD l) (.inl k : Key) (.int w) = encD (putD l k w) := by
  unfold putOf
  rw [val_enc]
  unfold putD
  by_cases e : k ∈ l.map (·.1)
  · rw [if_pos (by simp only [decide_eq_true_eq]; exact e), if_pos e]
    unfold encD
    rw [List.map_map, List.map_map]
    refine List.map_congr_left fun p _ => ?_
    by_cases e2 : p.1 = k
    · simp [e2]
    · simp [e2]
  · rw [if_neg (by simp only [decide_eq_true_eq]; exact e), if_neg e]
    unfold encD
    rw [List.map_append]
    rfl
structure DOk (n W : Int) (l : List (Int × Int)) : Prop where
  nd : (l.map (·.1)).Nodup
  b : ∀ p ∈ l, 0 ≤ p.1 ∧ p.1 < n ∧ 1 ≤ p.2 ∧ p.2 ≤ W
theorem DOk.put {n W k w : Int} {l : List (Int × Int)} (h : DOk n W l) (k0 : 0 ≤ k) (k1 : k < n) (w0 : 1 ≤ w) (w1 : w ≤ W) : DOk n W (putD l k w) := by
  unfold putD
  by_cases e : k ∈ l.map (·.1)
  · rw [if_pos e]
    have e1 : (l.map fun p => if p.1 = k then (p.1, w) else p).map (·.1) = l.map (·.1) := by
      rw [List.map_map]
      refine List.map_congr_left fun p _ => ?_
      by_cases e2 : p.1 = k <;> simp [e2]
    refine ⟨by rw [e1]; exact h.nd, fun p hp => ?_⟩
    obtain ⟨q, hq, rfl⟩ := List.mem_map.mp hp
    have := h.b q hq
    by_cases e2 : q.1 = k
    · rw [if_pos e2]; exact ⟨this.1, this.2.1, w0, w1⟩
    · rw [if_neg e2]; exact this
  · rw [if_neg e]
    refine ⟨?_, fun p hp => ?_⟩
    · rw [List.map_append, List.nodup_append]
      exact ⟨h.nd, by simp, fun a ha b hb z => e (by simp at hb; subst hb; subst z; exact ha)⟩
    · rcases List.mem_append.mp hp with hp | hp
      · exact h.b p hp
      · rw [List.mem_singleton.mp hp]; exact ⟨k0, k1, w0, w1⟩
theorem DOk.len {n W : Int} {l : List (Int × Int)} (h : DOk n W l) (hn : 0 ≤ n) : l.length ≤ n.toNat := by
  have := asc_len (n := n.toNat) (a := 0) (srt_strict h.nd) fun u hu => by
    have hu := (srt_perm _).mem_iff.mp hu
    obtain ⟨p, hp, rfl⟩ := List.mem_map.mp hu
    have := h.b p hp
    omega
  rw [(srt_perm _).length_eq, List.length_map] at this
  exact this
/-- what stands at a key -/
def look (l : List (Int × Int)) (u : Int) : Int := ((l.find? fun p => decide (p.1 = u)).map (·.2)).getD 0
theorem look_val : ∀ {l : List (Int × Int)} {u : Int}, u ∈ l.map (·.1) → valOf (encD l) (.inl u : Key) = some (.int (look l u)) ∧ (u, look l u) ∈ l
  | p :: l, u, h => by
    unfold look valOf encD
    rw [List.map_cons]
    by_cases e : p.1 = u
    · rw [List.find?_cons_of_pos (by simp [e]), List.find?_cons_of_pos (by simp [e])]
      refine ⟨rfl, ?_⟩
      subst e
      exact List.mem_cons_self ..
    · have h2 : u ∈ l.map (·.1) := by
        rw [List.map_cons] at h
        exact (List.mem_cons.mp h).resolve_left fun z => e z.symm
      have ih := look_val h2
      unfold look valOf encD at ih
      rw [List.find?_cons_of_neg (by simp [e]), List.find?_cons_of_neg (by simp [e])]
      exact ⟨ih.1, List.mem_cons_of_mem _ ih.2⟩
section
variable {Q : PV → Hv → Prop} {h : Hv}
theorem truth_bl {b : Bool} : truthOf h (.bl b) = some b := rfl
theorem eqv_strs {a b : Str} : eqB h (.str a) (.str b) = some (a == b) := by
  show (if min (PyData.depth (.str a)) (PyData.depth (.str b)) ≤ 100 then some (PyData.eqv (.str a) (.str b)) else none) = _
  rw [if_pos (by simp [PyData.depth])]
  rfl
theorem eqK {k : Bool} : eqB h (.str (own k)) (.str "keeper") = some k := by
  rw [eqv_strs]
  cases k
  · exact congrArg some (by decide +kernel)
  · exact congrArg some (by decide +kernel)
theorem wp_setK {k : Nat} {kvs : List (Key × PV)} {i : Int} {v : PV} {Q : Unit → Hv → Prop} (e : h[k]? = some (.dK kvs)) (c : kvs.length < sizeLine) : wp (setItem (.ref k) (.int i) v h) Q = Q () (setC h k (.dK (putOf kvs (.inl i : Key) v))) := by
  unfold setItem
  simp only [e, keyOf]
  rw [if_pos c]
  rfl
theorem wp_mkKt : wp (mkK true [] h) Q = Q (.ref h.length) (h ++ [.dK []]) := by
  unfold mkK
  rw [if_pos (show ([] : List (Key × PV)).length ≤ sizeLine from Nat.zero_le _), if_pos rfl]
  rfl
theorem cut_pre (xs : List PV) (k : Int) : ∃ n, cutP xs none (some k) = xs.take n := by
  refine ⟨HT.sIx xs.length xs.length (some k) - 0, ?_⟩
  have e : HT.sIx xs.length 0 none = 0 := rfl
  unfold cutP
  rw [e, List.drop_zero]
end
end HS
end
-- text k78p7
section
set_option Elab.async false
set_option linter.all false
set_option maxRecDepth 100000
set_option maxHeartbeats 8000000
namespace HS
open PySem PySem.Spec PyProof.Rows
namespace K78
local macro_rules | `(tactic| walk_at "ev") => `(tactic| simp only [wps_seq, wps_put, wps_asg, wps_par, wps_if, wps_ret, wps_expr, wps_nil, wps_for, wp_bin, wp_un, wp_cst, wp_c1, wp_c2, wp_or, wp_and, wp_not, wp_if, wp_tVal, wp_tBl, wp_tAnd, wp_tOr, wp_tNot, wp_truth, wp_chain, wp_all0, wp_all1, wp_tup, wp_lst, wp_call, wp_meth, wp_part, wp_noPart, wp_slice, wp_iSeq, wp_iEnum, wp_eComp, wp_ok, wp_ret, wp_ofO, eVar_0, eVar_s, blQ_bl, gNm_ev, gTp_ev, gAll_nil, gAll_cons, stO_some, wipe_nil, wipe_cons, List.set, wp_addI, wp_subI, wp_negI, wp_intI, wp_intB, wp_max, wp_min, wp_eqC, wp_neC, wp_ltI, wp_gtI, wp_leI, wp_geI, Option.map_some, Option.bind_some])
local macro_rules | `(tactic| walk_at "st") => `(tactic| simp only [wps_put, wps_asg, wps_par, wps_if, wps_ret, wps_expr, wps_nil, wps_for, wp_bin, wp_un, wp_cst, wp_c1, wp_c2, wp_or, wp_and, wp_not, wp_if, wp_tVal, wp_tBl, wp_tAnd, wp_tOr, wp_tNot, wp_truth, wp_chain, wp_all0, wp_all1, wp_tup, wp_lst, wp_call, wp_meth, wp_part, wp_noPart, wp_slice, wp_iSeq, wp_iEnum, wp_eComp, wp_ok, wp_ret, wp_ofO, eVar_0, eVar_s, blQ_bl, gNm_ev, gTp_ev, gAll_nil, gAll_cons, stO_some, wipe_nil, wipe_cons, List.set, wp_addI, wp_subI, wp_negI, wp_intI, wp_intB, wp_max, wp_min, wp_eqC, wp_neC, wp_ltI, wp_gtI, wp_leI, wp_geI, Option.map_some, Option.bind_some])
local macro_rules | `(tactic| walk_at "start") => `(tactic| simp only [startS, List.map, List.length, List.cons_append, List.nil_append, List.replicate])
section
variable {t : List Cell} {Q : PV → Hv → Prop} {h : Hv} {N : Sg → Hv → Prop} {R : PV → Hv → Prop}
theorem pick_l {xs : List PV} (q : D t h) (ht : Cl t) (h0 : xs ≠ []) (hl : xs.length < 1000000) (hx : ∀ x ∈ xs, nrf 0 x = true) (hq : ∀ x h', x ∈ xs → D t h' → Q x h') : wp (c__law_pick [.ref 1, .lst xs] h) Q := wp_pick q ht (fun _ => rfl) (fun _ _ => rfl) h0 hl (fun x h => nrf_up (Nat.zero_le _) x (hx x h)) hq
theorem pick_t {xs : List PV} (q : D t h) (ht : Cl t) (h0 : xs ≠ []) (hl : xs.length < 1000000) (hx : ∀ x ∈ xs, nrf 0 x = true) (hq : ∀ x h', x ∈ xs → D t h' → Q x h') : wp (c__law_pick [.ref 1, .tup xs] h) Q := wp_pick q ht (fun _ => rfl) (fun _ _ => rfl) h0 hl (fun x h => nrf_up (Nat.zero_le _) x (hx x h)) hq
theorem nrfk_enc (n : Nat) : ∀ l : List (Int × Int), nrfk n (encD l) = true
  | [] => rfl
  | p :: l => by
    show (true && nrfk n (encD l)) = true
    rw [nrfk_enc n l]
    rfl
theorem nrfs_rows (n : Nat) (l : List Row) : nrfs n (l.map Row.v) = true := nrfs_each fun v hv => by
  obtain ⟨r, _, rfl⟩ := List.mem_map.mp hv
  exact nrf_row n r
/-- the rows so far, old dicts behind -/
def Tl (t : List Cell) (rows : List Row) (u : List Cell) : List Cell := t ++ .lst (rows.map Row.v) :: u
theorem Tl_cl {rows : List Row} {u : List Cell} (ht : Cl t) (hu : ∀ c ∈ u, nrfC 0 c = true) : Cl (Tl t rows u) := by
  unfold Cl Tl at *
  refine List.all_eq_true.mpr fun c hc => ?_
  rw [List.length_append, List.length_cons]
  rcases List.mem_append.mp hc with hc | hc
  · exact nrfC_up (by omega) c (List.all_eq_true.mp ht c hc)
  · rcases List.mem_cons.mp hc with rfl | hc
    · exact nrfs_rows _ rows
    · exact nrfC_up (Nat.zero_le _) c (hu c hc)
theorem Tl_snoc {rows : List Row} {u : List Cell} {c : Cell} : Tl t rows u ++ [c] = Tl t rows (u ++ [c]) := by
  unfold Tl
  rw [List.append_assoc]
  rfl
theorem Tl_len {rows : List Row} {u : List Cell} : (Tl t rows u).length = t.length + u.length + 1 := by
  unfold Tl
  rw [List.length_append, List.length_cons]
  omega
/-- the slots within the loop -/
def Sl (most weight slips n way : Int) (F : Nat) (left : Int) (marks : List Int) (x9 x10 x11 x12 x13 x14 x15 x16 x17 : Option PV) : Sg :=
  [some (.ref 1), some (.int most), some (.int weight), some (.int slips), some (.int n), some (.int way), some (.ref F), some (.int left), some (.tup (marks.map .int)), x9, x10, x11, x12, x13, x14, x15, x16, x17]
def MvOk (n : Int) (mv : List Int) : Prop := mv ≠ [] ∧ mv.Pairwise (· < ·) ∧ ∀ u ∈ mv, 0 ≤ u ∧ u < n
/-- within a turn: owner, mark, moves, the dict -/
def InT (t : List Cell) (most weight slips n way left : Int) (marks : List Int) (v : Int) (rows : List Row) (σ : Sg) (h : Hv) : Prop := ∃ (u : List Cell) (kb : Bool) (mk : Int) (mv : List Int) (l : List (Int × Int)) (x14 x15 x16 x17 : Option PV),
  σ = Sl most weight slips n way (t.length + 2) left marks (some (.int v)) (some (.str (own kb))) (some (.int mk)) (some (.tup (mv.map .int))) (some (.ref ((Tl t rows u).length + 2))) x14 x15 x16 x17 ∧ D (Tl t rows u ++ [.dK (encD l)]) h ∧ (∀ c ∈ u, nrfC 0 c = true) ∧ DOk n weight l ∧ MvOk n mv ∧ 0 ≤ mk ∧ mk ≤ 6
theorem InT.cl {u : List Cell} {rows : List Row} {l : List (Int × Int)} (ht : Cl t) (hu : ∀ c ∈ u, nrfC 0 c = true) : Cl (Tl t rows u ++ [.dK (encD l)]) := by
  rw [Tl_snoc]
  refine Tl_cl ht fun c hc => ?_
  rcases List.mem_append.mp hc with hc | hc
  · exact hu c hc
  · rw [List.mem_singleton.mp hc]; exact nrfk_enc 0 l
/-- some[i] = 1 + draw -/
theorem put_draw {u : List Cell} {rows : List Row} {l : List (Int × Int)} {n weight i : Int} {P : Hv → Prop} (q : D (Tl t rows u ++ [.dK (encD l)]) h) (ht : Cl t) (hu : ∀ c ∈ u, nrfC 0 c = true) (hl : DOk n weight l) (hn : n < 1000) (i0 : 0 ≤ i) (i1 : i < n) (w : Int) (w0 : 1 ≤ w) (w1 : w ≤ weight)
    (hq : D (Tl t rows u ++ [.dK (encD (putD l i w))]) (setC h ((Tl t rows u).length + 2) (.dK (encD (putD l i w)))) → P (setC h ((Tl t rows u).length + 2) (.dK (encD (putD l i w))))) : wp (setItem (.ref ((Tl t rows u).length + 2)) (.int i) (.int w) h) fun _ h => P h := by
  have hll := hl.len (by omega)
  rw [wp_setK q.at_ (by unfold encD; rw [List.length_map]; show _ < 2 ^ 24; omega), put_enc]
  exact hq q.put
theorem rung_turn {most weight slips n way left : Int} {marks : List Int} {v : Int} {rows : List Row} {σ : Sg} (ht : Cl t) (v0 : 0 ≤ v) (v1 : v < n) (hn : n < 1000) (hw : 0 < weight) (hw2 : weight < 2 ^ 50) (i : InT t most weight slips n way left marks v rows σ h) :
    wps (sSeq (sIf (tBl (eBin cEq (eCall c__law_draw [(eVar 0), (eCst (.int 2))]) (eCst (.int 0)))) (sSeq (sPut (eVar 13) (eCall c__law_draw [(eVar 0), (eVar 4)]) (eBin (bAdd false) (eCst (.int 1)) (eCall c__law_draw [(eVar 0), (eVar 2)])))
      (sSeq (sIf (tBl (eBin cEq (eCall c__law_draw [(eVar 0), (eCst (.int 3))]) (eCst (.int 0)))) (sSeq (sPut (eVar 13) (eCall c__law_draw [(eVar 0), (eVar 4)]) (eBin (bAdd false) (eCst (.int 1)) (eCall c__law_draw [(eVar 0), (eVar 2)]))) sNil) sNil) sNil)) sNil) sNil σ h) (InT t most weight slips n way left marks v rows) R := by
  obtain ⟨u, kb, mk, mv, l, x14, x15, x16, x17, rfl, q, hu, hl, hmv, m0, m1⟩ := i
  unfold Sl
  walk_at "ev"
  refine wp_draw q (by decide) (by decide) (fun r h1 a b q1 => ?_) (InT.cl ht hu)
  rw [eqB_int]
  walk_at "ev"
  split
  · refine wp_draw q1 hw (by omega) (fun r2 h2 a2 b2 q2 => ?_) (InT.cl ht hu)
    refine wp_draw q2 (by omega) (by omega) (fun r3 h3 a3 b3 q3 => ?_) (InT.cl ht hu)
    refine put_draw q3 ht hu hl hn a3 b3 _ (by omega) (by omega) fun q4 => ?_
    have hl4 := hl.put a3 b3 (w := 1 + r2) (by omega) (by omega)
    refine wp_draw q4 (by decide) (by decide) (fun r5 h5 a5 b5 q5 => ?_) (InT.cl ht hu)
    rw [eqB_int]
    walk_at "ev"
    split
    · refine wp_draw q5 hw (by omega) (fun r6 h6 a6 b6 q6 => ?_) (InT.cl ht hu)
      refine wp_draw q6 (by omega) (by omega) (fun r7 h7 a7 b7 q7 => ?_) (InT.cl ht hu)
      refine put_draw q7 ht hu hl4 hn a7 b7 _ (by omega) (by omega) fun q8 => ?_
      exact ⟨u, kb, mk, mv, _, x14, x15, x16, x17, rfl, q8, hu, hl4.put a7 b7 (by omega) (by omega), hmv, m0, m1⟩
    · exact ⟨u, kb, mk, mv, _, x14, x15, x16, x17, rfl, q5, hu, hl4, hmv, m0, m1⟩
  · exact ⟨u, kb, mk, mv, _, x14, x15, x16, x17, rfl, q1, hu, hl, hmv, m0, m1⟩
theorem set_ok {n : Int} {is : List Int} (hne : is ≠ []) (hb : ∀ u ∈ is, 0 ≤ u ∧ u < n) : MvOk n (srtI is) := by
  refine ⟨fun z => ?_, srtI_asc _, fun u hu => hb u ((srtI_mem _ _).mp hu)⟩
  cases is with
  | nil => exact hne rfl
  | cons a as =>
    have : a ∈ srtI (a :: as) := (srtI_mem _ _).mpr (List.mem_cons_self ..)
    rw [z] at this
    cases this
theorem own_of {x : PV} (h : x ∈ [PV.str "keeper", .str "keeper", .str "keeper", .str "foe"]) : ∃ k, x = .str (own k) := by
  simp only [List.mem_cons, List.not_mem_nil, or_false] at h
  rcases h with rfl | rfl | rfl | rfl
  · exact ⟨true, rfl⟩
  · exact ⟨true, rfl⟩
  · exact ⟨true, rfl⟩
  · exact ⟨false, rfl⟩
/-- the moves of a ladder's place, and its slips -/
theorem ladder_end {most weight slips n way left : Int} {marks : List Int} {v : Int} {rows : List Row} (ht : Cl t) (v0 : 0 ≤ v) (v1 : v < n) (hn : n < 1000) (hw : 0 < weight) (hw2 : weight < 2 ^ 50)
    {u : List Cell} {kb : Bool} {mk : Int} {l : List (Int × Int)} {is : List Int} {x14 x15 x16 x17 : Option PV} (q : D (Tl t rows u ++ [.dK (encD l)]) h) (hu : ∀ c ∈ u, nrfC 0 c = true) (hl : DOk n weight l) (m0 : 0 ≤ mk) (m1 : mk ≤ 6) (hne : is ≠ []) (hb : ∀ u ∈ is, 0 ≤ u ∧ u < n) (hil : is.length < 5) :
    wp (bSet (.lst (is.map .int)) h) fun x h => wp (bSorted false x h) fun x h => wp (bTuple x h) fun v' h =>
      wps (sSeq (sPut (eVar 13) (eCall2 bMin2 (eBin (bAdd false) (eVar 9) (eCst (.int 1))) (eBin bSub (eVar 4) (eCst (.int 1)))) (eBin (bAdd false) (eCst (.int 1)) (eCall c__law_draw [(eVar 0), (eVar 2)])))
    (sSeq (sIf (tBl (eBin cEq (eCall c__law_draw [(eVar 0), (eCst (.int 4))]) (eCst (.int 0)))) (sSeq (sPut (eVar 13) (eBin bSub (eVar 4) (eCst (.int 1))) (eBin (bAdd false) (eCst (.int 1)) (eCall c__law_draw [(eVar 0), (eVar 2)])))
    sNil) sNil)
    sNil) (Sl most weight slips n way (t.length + 2) left marks (some (.int v)) (some (.str (own kb))) (some (.int mk)) (some v') (some (.ref ((Tl t rows u).length + 2))) x14 x15 x16 x17) h) (InT t most weight slips n way left marks v rows) R := by
  rw [wp_set rfl (by omega), wp_sortS (by omega), wp_tuple rfl (by rw [List.length_map]; have := srtI_len is; show _ ≤ 2 ^ 24; omega)]
  have hmv := set_ok hne hb
  unfold Sl
  walk_at "ev"
  refine wp_draw q hw (by omega) (fun r h1 a b q1 => ?_) (InT.cl ht hu)
  refine put_draw q1 ht hu hl hn (by omega) (by omega) _ (by omega) (by omega) fun q2 => ?_
  have hl2 := hl.put (k := min (v + 1) (n - 1)) (w := 1 + r) (by omega) (by omega) (by omega) (by omega)
  refine wp_draw q2 (by decide) (by decide) (fun r3 h3 a3 b3 q3 => ?_) (InT.cl ht hu)
  rw [eqB_int]
  walk_at "ev"
  split
  · refine wp_draw q3 hw (by omega) (fun r4 h4 a4 b4 q4 => ?_) (InT.cl ht hu)
    refine put_draw q4 ht hu hl2 hn (by omega) (by omega) _ (by omega) (by omega) fun q5 => ?_
    exact ⟨u, kb, mk, _, _, x14, x15, x16, x17, rfl, q5, hu, hl2.put (by omega) (by omega) (by omega) (by omega), hmv, m0, m1⟩
  · exact ⟨u, kb, mk, _, _, x14, x15, x16, x17, rfl, q3, hu, hl2, hmv, m0, m1⟩
theorem ladder_turn {most weight slips n way left : Int} {marks : List Int} {v : Int} {rows : List Row} {σ : Sg} (ht : Cl t) (v0 : 0 ≤ v) (v1 : v < n) (hn : n < 1000) (hw : 0 < weight) (hw2 : weight < 2 ^ 50) (i : InT t most weight slips n way left marks v rows σ h) :
    wps (sSeq (sIf (tBl (eBin cLt (eVar 5) (eCst (.int 3)))) (sSeq (sAsg (gNm 14) (eBin cLt (eVar 9) (eBin bSub (eVar 4) (eCst (.int 1)))))
    (sSeq (sAsg (gTp [(gNm 10), (gNm 11)]) (eIf (tVal (eVar 14)) (eTup [(eCall c__law_pick [(eVar 0), (eLst false [(eCst (.str "keeper")), (eCst (.str "keeper")), (eCst (.str "keeper")), (eCst (.str "foe"))])]), (eBin (bMul false) (eCst (.int 2)) (eCall c__law_draw [(eVar 0), (eCst (.int 2))]))]) (eTup [(eCst (.str "foe")), (eCst (.int 1))])))
    (sSeq (sAsg (gNm 15) (eIf (tVal (eVar 14)) (eLst false [(eVar 9), (eCall c__law_draw [(eVar 0), (eBin (bAdd false) (eVar 9) (eCst (.int 1)))])]) (eLst false [(eVar 9)])))
    (sSeq (sAsg (gNm 12) (eCall1 bTuple (eCall1 (bSorted false) (eCall1 bSet (eBin (bAdd false) (eVar 15) (eIf (tAnd (tVal (eVar 14)) (tAnd (tBl (eBin cEq (eVar 10) (eCst (.str "keeper")))) (tBl (eBin cEq (eCall c__law_draw [(eVar 0), (eCst (.int 3))]) (eCst (.int 0)))))) (eLst false [(eBin (bAdd false) (eVar 9) (eCst (.int 1)))]) (eLst false [])))))))
    (sSeq (sPut (eVar 13) (eCall2 bMin2 (eBin (bAdd false) (eVar 9) (eCst (.int 1))) (eBin bSub (eVar 4) (eCst (.int 1)))) (eBin (bAdd false) (eCst (.int 1)) (eCall c__law_draw [(eVar 0), (eVar 2)])))
    (sSeq (sIf (tBl (eBin cEq (eCall c__law_draw [(eVar 0), (eCst (.int 4))]) (eCst (.int 0)))) (sSeq (sPut (eVar 13) (eBin bSub (eVar 4) (eCst (.int 1))) (eBin (bAdd false) (eCst (.int 1)) (eCall c__law_draw [(eVar 0), (eVar 2)])))
    sNil) sNil)
    sNil)))))) sNil) sNil σ h) (InT t most weight slips n way left marks v rows) R := by
  obtain ⟨u, kb, mk, mv, l, x14, x15, x16, x17, rfl, q, hu, hl, hmv, m0, m1⟩ := i
  have cl : ∀ {l}, Cl (Tl t rows u ++ [.dK (encD l)]) := InT.cl ht hu
  have e2 : ∀ a b : Int, ([PV.int a, .int b] : List PV) = [a, b].map .int := fun _ _ => rfl
  unfold Sl
  rw [wps_seq]
  walk_at "st"
  split
  · rw [wps_seq]
    walk_at "st"
    rw [wps_seq]
    walk_at "st"
    rw [truth_bl]
    walk_at "st"
    split
    · rename_i hr
      have hr : v < n - 1 := of_decide_eq_true hr
      rw [wp_mkL4]
      refine pick_l q cl (by simp) (by simp) (by intro x hx; simp only [List.mem_cons, List.not_mem_nil, or_false] at hx; rcases hx with rfl | rfl | rfl | rfl <;> rfl) fun x h1 hx q1 => ?_
      obtain ⟨k2, rfl⟩ := own_of hx
      refine wp_draw q1 (by decide) (by decide) (fun r h2 a b q2 => ?_) cl
      rw [wp_mulI (.inl ⟨by decide, by decide⟩), wp_mkT2]
      walk_at "st"
      rw [wps_seq]
      walk_at "st"
      rw [truth_bl]
      walk_at "st"
      rw [if_pos (decide_eq_true hr)]
      refine wp_draw q2 (by omega) (by omega) (fun r3 h3 a3 b3 q3 => ?_) cl
      rw [wp_mkL2, wps_seq]
      walk_at "st"
      rw [truth_bl]
      walk_at "st"
      rw [if_pos (decide_eq_true hr), eqK]
      walk_at "st"
      have fin : ∀ (w : List Int) (h4 : Hv), D (Tl t rows u ++ [.dK (encD l)]) h4 → (∀ x ∈ w, 0 ≤ x ∧ x < n) → w.length < 3 → _ := fun w h4 q4 hb hwl => ladder_end (R := R) (most := most) (slips := slips) (way := way) (left := left) (marks := marks) (kb := k2) (mk := 2 * r) (is := [v, r3] ++ w) (x14 := some (.bl (decide (v < n - 1)))) (x15 := some (.lst [.int v, .int r3])) (x16 := x16) (x17 := x17) ht v0 v1 hn hw hw2 q4 hu hl (by omega) (by omega) (by simp) (fun x hx => by
        rcases List.mem_append.mp hx with hx | hx
        · simp only [List.mem_cons, List.not_mem_nil, or_false] at hx
          rcases hx with rfl | rfl <;> omega
        · exact hb x hx) (by rw [List.length_append]; simp only [List.length_cons, List.length_nil]; omega)
      split
      · refine wp_draw q3 (by decide) (by decide) (fun r5 h5 a5 b5 q5 => ?_) cl
        rw [eqB_int]
        walk_at "st"
        split
        · rw [wp_mkL1]
          rw [wp_addL, List.cons_append, List.cons_append, List.nil_append, wp_mkL3]
          exact fin [v + 1] h5 q5 (fun x hx => by rw [List.mem_singleton.mp hx]; omega) (by simp)
        · rw [wp_mkL0]
          rw [wp_addL, List.append_nil, wp_mkL2]
          exact fin [] h5 q5 (fun x hx => by cases hx) (by decide)
      · rw [wp_mkL0]
        rw [wp_addL, List.append_nil, wp_mkL2]
        exact fin [] h3 q3 (fun x hx => by cases hx) (by decide)
    · rename_i hr
      have hr : ¬ v < n - 1 := fun z => hr (decide_eq_true z)
      rw [wp_mkT2]
      walk_at "st"
      rw [wps_seq]
      walk_at "st"
      rw [truth_bl]
      walk_at "st"
      rw [if_neg (by simp [hr]), wp_mkL1, wps_seq]
      walk_at "st"
      rw [truth_bl]
      walk_at "st"
      rw [if_neg (by simp [hr])]
      rw [wp_mkL0, wp_addL, List.append_nil, wp_mkL1]
      exact ladder_end (R := R) (most := most) (slips := slips) (way := way) (left := left) (marks := marks) (kb := false) (mk := 1) (is := [v]) (x14 := some (.bl (decide (v < n - 1)))) (x15 := some (.lst [.int v])) (x16 := x16) (x17 := x17) ht v0 v1 hn hw hw2 q hu hl (by omega) (by omega) (by simp) (fun x hx => by rw [List.mem_singleton.mp hx]; omega) (by simp)
  · exact ⟨u, kb, mk, mv, l, x14, x15, x16, x17, rfl, q, hu, hl, hmv, m0, m1⟩
end
end K78
end HS
end
-- text k78p8
section
set_option Elab.async false
set_option linter.all false
set_option maxRecDepth 100000
set_option maxHeartbeats 8000000
namespace HS
open PySem PySem.Spec PyProof.Rows
namespace K78
local macro_rules | `(tactic| walk_at "ev") => `(tactic| simp only [wps_seq, wps_put, wps_asg, wps_par, wps_if, wps_ret, wps_expr, wps_nil, wps_for, wp_bin, wp_un, wp_cst, wp_c1, wp_c2, wp_or, wp_and, wp_not, wp_if, wp_tVal, wp_tBl, wp_tAnd, wp_tOr, wp_tNot, wp_truth, wp_chain, wp_all0, wp_all1, wp_tup, wp_lst, wp_call, wp_meth, wp_part, wp_noPart, wp_slice, wp_iSeq, wp_iEnum, wp_eComp, wp_ok, wp_ret, wp_ofO, eVar_0, eVar_s, blQ_bl, gNm_ev, gTp_ev, gAll_nil, gAll_cons, stO_some, wipe_nil, wipe_cons, List.set, wp_addI, wp_subI, wp_negI, wp_intI, wp_intB, wp_max, wp_min, wp_eqC, wp_neC, wp_ltI, wp_gtI, wp_leI, wp_geI, Option.map_some, Option.bind_some])
local macro_rules | `(tactic| walk_at "st") => `(tactic| simp only [wps_put, wps_asg, wps_par, wps_if, wps_ret, wps_expr, wps_nil, wps_for, wp_bin, wp_un, wp_cst, wp_c1, wp_c2, wp_or, wp_and, wp_not, wp_if, wp_tVal, wp_tBl, wp_tAnd, wp_tOr, wp_tNot, wp_truth, wp_chain, wp_all0, wp_all1, wp_tup, wp_lst, wp_call, wp_meth, wp_part, wp_noPart, wp_slice, wp_iSeq, wp_iEnum, wp_eComp, wp_ok, wp_ret, wp_ofO, eVar_0, eVar_s, blQ_bl, gNm_ev, gTp_ev, gAll_nil, gAll_cons, stO_some, wipe_nil, wipe_cons, List.set, wp_addI, wp_subI, wp_negI, wp_intI, wp_intB, wp_max, wp_min, wp_eqC, wp_neC, wp_ltI, wp_gtI, wp_leI, wp_geI, Option.map_some, Option.bind_some])
local macro_rules | `(tactic| walk_at "start") => `(tactic| simp only [startS, List.map, List.length, List.cons_append, List.nil_append, List.replicate])
section
variable {t : List Cell} {Q : PV → Hv → Prop} {h : Hv} {N : Sg → Hv → Prop} {R : PV → Hv → Prop}
/-- after a turn -/
def EndT (t : List Cell) (most weight slips n way : Int) (marks : List Int) (rows : List Row) (σ : Sg) (h : Hv) : Prop := ∃ (u : List Cell) (left : Int) (x9 x10 x11 x12 x13 x14 x15 x16 x17 : Option PV),
  σ = Sl most weight slips n way (t.length + 2) left marks x9 x10 x11 x12 x13 x14 x15 x16 x17 ∧ D (Tl t rows u) h ∧ (∀ c ∈ u, nrfC 0 c = true) ∧ ∀ r ∈ rows, RowOk n weight r
theorem keys_int (l : List (Int × Int)) : (encD l).map (fun kv => keyV kv.1) = (l.map (·.1)).map PV.int := by
  unfold encD
  rw [List.map_map, List.map_map]
  rfl
theorem wp_listK {k : Nat} {l : List (Int × Int)} (e : h[k]? = some (.dK (encD l))) (c : l.length ≤ sizeLine) : wp (bList false (.ref k) h) Q = Q (.lst ((l.map (·.1)).map .int)) h := by
  have e1 : seqOf h (.ref k) = none := by
    show cellL h k = none
    unfold cellL
    rw [e]
  have e2 : dKOf h (.ref k) = some (encD l) := by
    show cellK h k = _
    unfold cellK
    rw [e]
  unfold bList
  simp only [e1, e2]
  rw [keys_int]
  exact wp_mkLf (by rw [List.length_map, List.length_map]; exact c)
theorem ix_cellK {k : Nat} {kvs : List (Key × PV)} {u : Int} {v : PV} (e : h[k]? = some (.dK kvs)) (ev : valOf kvs (.inl u : Key) = some v) : ixB h (.ref k) (.int u) = some v := by
  have e1 : seqOf h (.ref k) = none := by
    show cellL h k = none
    unfold cellL
    rw [e]
  have e2 : dKOf h (.ref k) = some kvs := by
    show cellK h k = _
    unfold cellK
    rw [e]
  unfold ixB
  simp only [e1, e2]
  exact ev
theorem wp_sliceL {xs : List PV} {lo hi : Option Int} (c : xs.length ≤ sizeLine) : wp (sSlice false (.lst xs) lo hi h) Q = Q (.lst (cutP xs lo hi)) h := by
  have e : (cutP xs lo hi).length ≤ sizeLine := by
    unfold cutP
    rw [List.length_take, List.length_drop]
    omega
  exact wp_mkLf e
theorem end_turn {most weight slips n way left : Int} {marks : List Int} {v : Int} {rows : List Row} {σ : Sg} (ht : Cl t) (v0 : 0 ≤ v) (v1 : v < n) (hn : n < 1000) (hrl : rows.length < 1000) (hro : ∀ r ∈ rows, RowOk n weight r) (i : InT t most weight slips n way left marks v rows σ h) :
    wps (sSeq (sAsg (gNm 16) (eIf (tAnd (tBl (eBin cEq (eVar 10) (eCst (.str "keeper")))) (tBl (eBin cNe (eVar 5) (eCst (.int 5))))) (eCall1 bTuple (eSlice false (eComp false [17] (iSeq (eCall1 (bSorted false) (eCall1 (bList false) (eVar 13)))) (gNm 17) tYes (eTup [(eVar 17), (eBin sIx (eVar 13) (eVar 17))])) eNoPart (ePart (eVar 7)))) (eTup [])))
    (sSeq (sAsg (gNm 7) (eBin bSub (eVar 7) (eCall1 bLen (eVar 16))))
    (sSeq (sExpr (eMeth mAppend (eVar 6) [(eTup [(eVar 10), (eVar 11), (eVar 12), (eVar 16)])]))
    sNil)) σ h) (fun σ h => ∃ row, EndT t most weight slips n way marks (rows ++ [row]) σ h) R := by
  obtain ⟨u, kb, mk, mv, l, x14, x15, x16, x17, rfl, q, hu, hl, hmv, m0, m1⟩ := i
  have hll := hl.len (by omega)
  have fin : ∀ (sl : List (Int × Int)) (x17 : Option PV), (sl.map (·.1)).Pairwise (· < ·) → (∀ p ∈ sl, 0 ≤ p.1 ∧ p.1 < n ∧ 1 ≤ p.2 ∧ p.2 ≤ weight) → (kb = false → sl = []) → sl.length < 1000 → wps (sSeq (sAsg (gNm 7) (eBin bSub (eVar 7) (eCall1 bLen (eVar 16))))
    (sSeq (sExpr (eMeth mAppend (eVar 6) [(eTup [(eVar 10), (eVar 11), (eVar 12), (eVar 16)])]))
    sNil) (Sl most weight slips n way (t.length + 2) left marks (some (.int v)) (some (.str (own kb))) (some (.int mk)) (some (.tup (mv.map .int))) (some (.ref ((Tl t rows u).length + 2))) x14 x15 (some (.tup (sl.map pairV))) x17) h) (fun σ h => ∃ row, EndT t most weight slips n way marks (rows ++ [row]) σ h) R := by
    intro sl x17 h1 h2 h3 h4
    unfold Sl
    walk_at "ev"
    rw [wp_len (n := sl.length) (by show some (sl.map pairV).length = _; rw [List.length_map])]
    unfold natV
    walk_at "ev"
    have q2 : D (t ++ .lst (rows.map Row.v) :: (u ++ [.dK (encD l)])) h := by
      have q2 := q
      rw [Tl_snoc] at q2
      exact q2
    refine ⟨by rw [recv_of q2.at_]; rfl, ?_⟩
    rw [wp_mkT4, wp_app q2.at_ (by rw [List.length_map]; show _ < 2 ^ 24; omega)]
    have q3 := q2.put (c' := .lst (rows.map Row.v ++ [.tup [.str (own kb), .int mk, .tup (mv.map .int), .tup (sl.map pairV)]]))
    have e : rows.map Row.v ++ [.tup [.str (own kb), .int mk, .tup (mv.map .int), .tup (sl.map pairV)]] = (rows ++ [(⟨kb, mk, mv, sl⟩ : Row)]).map Row.v := by
      rw [List.map_append]
      rfl
    rw [e] at q3 ⊢
    refine ⟨⟨kb, mk, mv, sl⟩, u ++ [Cell.dK (encD l)], _, _, _, _, _, _, _, _, _, _, rfl, q3, fun c hc => ?_, fun r hr => ?_⟩
    · rcases List.mem_append.mp hc with hc | hc
      · exact hu c hc
      · rw [List.mem_singleton.mp hc]; exact nrfk_enc 0 l
    · rcases List.mem_append.mp hr with hr | hr
      · exact hro r hr
      · rw [List.mem_singleton.mp hr]
        exact ⟨⟨m0, m1⟩, hmv.1, hmv.2.1, hmv.2.2, h1, h2, h3⟩
  unfold Sl
  rw [wps_seq]
  walk_at "st"
  rw [eqK]
  walk_at "st"
  have no : ∀ x17, wps (sSeq (sAsg (gNm 7) (eBin bSub (eVar 7) (eCall1 bLen (eVar 16))))
    (sSeq (sExpr (eMeth mAppend (eVar 6) [(eTup [(eVar 10), (eVar 11), (eVar 12), (eVar 16)])]))
    sNil) (Sl most weight slips n way (t.length + 2) left marks (some (.int v)) (some (.str (own kb))) (some (.int mk)) (some (.tup (mv.map .int))) (some (.ref ((Tl t rows u).length + 2))) x14 x15 (some (.tup [])) x17) h) (fun σ h => ∃ row, EndT t most weight slips n way marks (rows ++ [row]) σ h) R := fun x17 => fin [] x17 List.Pairwise.nil (by simp) (fun _ => rfl) (by simp)
  split
  · rename_i hk
    rw [eqB_int]
    walk_at "st"
    split
    · rw [wp_listK q.at_ (by show _ ≤ 2 ^ 24; omega), wp_sortI rfl (by rw [List.length_map]; show _ ≤ 2 ^ 24; omega), seqS_lst]
      walk_at "st"
      have hmem : ∀ u, u ∈ srt (l.map (·.1)) → u ∈ l.map (·.1) := fun u hu => (srt_perm _).mem_iff.mp hu
      rw [comp_map (f := fun x => match x with
        | .int u => .tup [.int u, .int (look l u)]
        | v => v) srcOk_nil _ fun x hx => ?_]
      · walk_at "st"
        have e1 : ((srt (l.map (·.1))).map PV.int).map (fun x => match x with
          | .int u => PV.tup [.int u, .int (look l u)]
          | v => v) = ((srt (l.map (·.1))).map fun u => (u, look l u)).map pairV := by
          rw [List.map_map, List.map_map]
          rfl
        have hsl : (srt (l.map (·.1))).length ≤ n.toNat := by rw [(srt_perm _).length_eq, List.length_map]; exact hll
        rw [e1, wp_mkLf (by rw [List.length_map, List.length_map]; show _ ≤ 2 ^ 24; omega), wp_sliceL (by rw [List.length_map, List.length_map]; show _ ≤ 2 ^ 24; omega)]
        obtain ⟨k, ek⟩ := cut_pre (((srt (l.map (·.1))).map fun u => (u, look l u)).map pairV) left
        rw [ek, ← List.map_take, wp_tuple rfl (by rw [List.length_map, List.length_take, List.length_map]; show _ ≤ 2 ^ 24; omega)]
        refine fin _ _ ?_ (fun p hp => ?_) (fun z => by rw [z] at hk; cases hk) (by rw [List.length_take, List.length_map]; omega)
        · rw [← List.map_take, List.map_map]
          have e2 : ((fun p : Int × Int => p.1) ∘ fun u => (u, look l u)) = id := rfl
          rw [e2, List.map_id]
          exact (srt_strict hl.nd).sublist (List.take_sublist ..)
        · have hp := List.mem_of_mem_take hp
          obtain ⟨u2, hu2, rfl⟩ := List.mem_map.mp hp
          exact hl.b _ (look_val (hmem u2 hu2)).2
      · obtain ⟨u2, hu2, rfl⟩ := List.mem_map.mp hx
        refine ⟨_, rfl, wp.to_eq ?_⟩
        walk_at "st"
        rw [wp_ix (ix_cellK q.at_ (look_val (hmem u2 hu2)).1), wp_mkT2]
        exact ⟨rfl, rfl⟩
    · rw [wp_mkT0]
      exact no _
  · rw [wp_mkT0]
    exact no _
theorem wp_kf {tt : TSm} {σ : Sg} (p : wp (tt σ h) fun _ h => ∀ kb, Q (.str (own kb)) h) : wp (eIf tt (eCst (.str "keeper")) (eCst (.str "foe")) σ h) Q := by
  rw [wp_if]
  refine p.mono fun b h q => ?_
  cases b
  · exact q false
  · exact q true
/-- a drawn game -/
theorem wp_game {most weight slips : Int} (q : D t h) (ht : Cl t) (hm : 0 < most) (hm2 : most < 50) (hw : 0 < weight) (hw2 : weight < 2 ^ 50) (hq : ∀ g h', GameOk weight g → (g.length : Int) ≤ most → D t h' → Q (gameV g) h') : wp (c__law_game [.ref 1, .int most, .int weight, .int slips] h) Q := by
  refine wp_runF ?_
  unfold m__law_game
  try walk_at "start"
  rw [wps_seq]
  try walk_at "st"
  refine wp_draw q hm (by omega) (fun r h1 a b q1 => ?_) ht
  rw [wp_mkL4]
  refine pick_l q1 ht (by simp) (by simp) (by intro x hx; simp only [List.mem_cons, List.not_mem_nil, or_false] at hx; rcases hx with rfl | rfl | rfl | rfl <;> rfl) fun x h2 hx q2 => ?_
  obtain ⟨n0, rfl, hn0⟩ : ∃ n0 : Int, x = .int n0 ∧ n0 < most := by
    simp only [List.mem_cons, List.not_mem_nil, or_false] at hx
    rcases hx with rfl | rfl | rfl | rfl
    · exact ⟨_, rfl, by omega⟩
    · exact ⟨_, rfl, by omega⟩
    · exact ⟨_, rfl, by omega⟩
    · exact ⟨_, rfl, by omega⟩
  try walk_at "st"
  refine wp_draw q2 (by decide) (by decide) (fun way h3 a3 b3 q3 => ?_) ht
  rw [wp_mkLt (by exact Nat.zero_le _), q3.len]
  try walk_at "st"
  rw [wps_seq]
  try walk_at "st"
  rw [wps_seq]
  try walk_at "st"
  have q4 : D (Tl t [] []) (h3 ++ [.lst []]) := (Dnil q3).push
  have cl4 : Cl (Tl t [] []) := Tl_cl ht (by simp)
  rw [wp_mkT2, wp_mkT3, wp_mkT4, wp_mkT2, wp_mkT4, wp_mkL5]
  refine pick_l q4 cl4 (by simp) (by simp) (by intro x hx; simp only [List.mem_cons, List.not_mem_nil, or_false] at hx; rcases hx with rfl | rfl | rfl | rfl | rfl <;> rfl) fun x h5 hx q5 => ?_
  obtain ⟨marks, rfl, hmk, hmk2, hmk3⟩ : ∃ ms : List Int, x = .tup (ms.map .int) ∧ ms ≠ [] ∧ (∀ m ∈ ms, 0 ≤ m ∧ m ≤ 6) ∧ ms.length < 10 := by
    simp only [List.mem_cons, List.not_mem_nil, or_false] at hx
    rcases hx with rfl | rfl | rfl | rfl | rfl
    · exact ⟨[0, 1], rfl, by decide, by decide, by decide⟩
    · exact ⟨[0, 1, 2], rfl, by decide, by decide, by decide⟩
    · exact ⟨[0, 1, 2, 3], rfl, by decide, by decide, by decide⟩
    · exact ⟨[1, 2], rfl, by decide, by decide, by decide⟩
    · exact ⟨[0, 1, 3, 4], rfl, by decide, by decide, by decide⟩
  have hn1 : 1 ≤ max 1 (1 + n0) := by omega
  have hn2 : max 1 (1 + n0) ≤ most := by omega
  generalize max 1 (1 + n0) = n at hn1 hn2 ⊢
  rw [wps_seq]
  try walk_at "st"
  rw [wp_iRng1]
  try walk_at "st"
  refine ⟨rg_ok (by omega) (by omega), ?_⟩
  refine wps_forL (I := fun xs σ h => ∃ (k : Nat) (rows : List Row), k ≤ n.toNat ∧ rows.length = k ∧ xs = (rgP 0 n).drop k ∧ EndT t most weight slips n way marks rows σ h) (rgP 0 n) _ _ ?_ ?_ ⟨0, [], Nat.zero_le _, rfl, rfl, [], slips, none, none, none, none, none, none, none, none, none, rfl, q5, by simp, by simp⟩
  · rintro x rest σ h6 ⟨k, rows, hk, hl, hx, u, left, x9, x10, x11, x12, x13, x14, x15, x16, x17, rfl, q6, hu, hro⟩
    have hrg : ∀ k : Nat, (rgP 0 n).drop k = ((List.range n.toNat).drop k).map fun i : Nat => PV.int (i : Int) := fun k => by
      unfold rgP
      rw [← List.map_drop]
      simp
    rw [hrg k] at hx
    have hk2 : k < n.toNat := by
      have e := congrArg List.length hx
      rw [List.length_map, List.length_drop, List.length_range] at e
      simp only [List.length_cons] at e
      omega
    rw [List.drop_eq_getElem_cons (by rw [List.length_range]; exact hk2), List.map_cons, List.getElem_range] at hx
    obtain ⟨rfl, rfl⟩ := List.cons.inj hx
    refine ⟨srcOk_nil, _, rfl, ?_⟩
    have cl6 : Cl (Tl t rows u) := Tl_cl ht hu
    unfold Sl
    rw [wps_seq, wps_par, wp_all1]
    refine wp_kf ?_
    try walk_at "st"
    refine wp_draw q6 (by decide) (by decide) (fun r7 h7 a7 b7 q7 => ?_) cl6
    rw [wp_gtI, blQ_bl]
    intro kb
    try walk_at "st"
    refine pick_t q7 cl6 (by simp [hmk]) (by rw [List.length_map]; omega) (by intro x hx; obtain ⟨m, _, rfl⟩ := List.mem_map.mp hx; rfl) fun x h8 hx q8 => ?_
    obtain ⟨mk, hmm, rfl⟩ := List.mem_map.mp hx
    try walk_at "st"
    rw [wps_seq]
    try walk_at "st"
    refine wp_some q8 cl6 (by omega) (by omega) (by decide) (by decide) (fun mv h9 m1 m2 m3 q9 => ?_)
    rw [wp_mkKt, q9.len]
    try walk_at "st"
    have i0 : InT t most weight slips n way left marks (k : Int) rows (Sl most weight slips n way (t.length + 2) left marks (some (.int (k : Int))) (some (.str (own kb))) (some (.int mk)) (some (.tup (mv.map .int))) (some (.ref ((Tl t rows u).length + 2))) x14 x15 x16 x17) (h9 ++ [.dK []]) :=
      ⟨u, kb, mk, mv, [], x14, x15, x16, x17, rfl, by have z := (Dnil q9).push (c := .dK []); exact z, hu, ⟨List.nodup_nil, by simp⟩, ⟨m1, m2, m3⟩, (hmk2 mk hmm).1, (hmk2 mk hmm).2⟩
    have s1 := ladder_turn (R := fun v h' => wp (leave h.length (.ok v h')) Q) ht (by omega) (by omega) (by omega) hw hw2 i0
    rw [wps_seq] at s1 ⊢
    refine wps.mono s1 (fun σ h10 s => ?_) (fun _ _ z => z)
    have s : InT t most weight slips n way left marks (k : Int) rows σ h10 := s
    have s2 := rung_turn (R := fun v h' => wp (leave h.length (.ok v h')) Q) ht (by omega) (by omega) (by omega) hw hw2 s
    rw [wps_seq] at s2 ⊢
    refine wps.mono s2 (fun σ h11 s => ?_) (fun _ _ z => z)
    have s : InT t most weight slips n way left marks (k : Int) rows σ h11 := s
    refine wps.mono (end_turn (R := fun v h' => wp (leave h.length (.ok v h')) Q) ht (by omega) (by omega) (by omega) (by omega) hro s) (fun σ h12 s => ?_) (fun _ _ z => z)
    obtain ⟨row, s⟩ := s
    exact ⟨k + 1, rows ++ [row], hk2, by rw [List.length_append, hl]; rfl, by rw [hrg (k + 1)], s⟩
  · rintro σ h6 ⟨k, rows, hk, hl, hx, u, left, x9, x10, x11, x12, x13, x14, x15, x16, x17, rfl, q6, hu, hro⟩
    refine ⟨srcOk_nil, ?_⟩
    have hk2 : k = n.toNat := by
      have e := congrArg List.length hx
      rw [List.length_drop, rgP_len] at e
      simp only [List.length_nil] at e
      omega
    have cl6 : Cl (Tl t rows u) := Tl_cl ht hu
    have hgo : GameOk weight rows := ⟨fun z => by rw [z] at hl; simp at hl; omega, fun r hr => by
      have e : (rows.length : Int) = n := by omega
      rw [e]
      exact hro r hr⟩
    unfold Sl
    rw [wps_seq]
    try walk_at "st"
    refine wp_draw q6 (by decide) (by decide) (fun r7 h7 a7 b7 q7 => ?_) cl6
    rw [eqB_int]
    try walk_at "st"
    have at7 : ∀ {h'}, D (Tl t rows u) h' → h'[t.length + 2]? = some (.lst (rows.map Row.v)) := fun q => D.at_ q
    have tlx : ∀ {h'}, D (Tl t rows u) h' → D (t ++ (.lst (rows.map Row.v) :: u)) h' := fun q => q
    split
    · rw [wp_tuple (lst_of (at7 q7)) (by rw [List.length_map]; show _ ≤ 2 ^ 24; omega)]
      refine wp_order q7 cl6 (by omega) (by omega) fun os h8 hp q8 => ?_
      have en : n.toNat = rows.length := by omega
      rw [en] at hp
      refine wp_renumbered q8 cl6 hgo (by omega) hp fun h9 q9 => ?_
      have ok := rn_ok hgo hp
      exact wp_leave q ht (tlx q9) (nrf_game _ _) fun h10 q10 => hq _ _ ok.1 (by rw [ok.2]; omega) q10
    · rw [wp_tuple (lst_of (at7 q7)) (by rw [List.length_map]; show _ ≤ 2 ^ 24; omega)]
      exact wp_leave q ht (tlx q7) (nrf_game _ _) fun h10 q10 => hq _ _ hgo (by omega) q10
end
end K78
end HS
end
-- text k78p9
section
set_option Elab.async false
set_option linter.all false
set_option maxRecDepth 100000
set_option maxHeartbeats 8000000
namespace HS
open PySem PySem.Spec PyProof.Rows
/-! ### looks at values -/
def pl : PV → Bool
  | .non | .bl _ | .int _ | .str _ | .tup _ | .lst _ | .dK _ => true
  | _ => false
def isI : PV → Bool
  | .int _ => true
  | _ => false
def isBt (a b : Int) : PV → Bool
  | .int i => decide (a ≤ i) && decide (i ≤ b)
  | _ => false
def isF (a : Int) : PV → Bool
  | .int i => decide (a ≤ i)
  | _ => false
def isTn (n : Nat) : PV → Bool
  | .tup xs => decide (xs.length = n)
  | _ => false
def isW : PV → Bool
  | .str s => s == "keeper" || s == "foe"
  | _ => false
/-- ints that ascend -/
def ascP : List PV → Bool
  | .int a :: .int b :: r => decide (a < b) && ascP (.int b :: r)
  | _ => true
def mvB (n : Int) : PV → Bool
  | .tup xs => !xs.isEmpty && xs.all (isBt 0 (n - 1)) && ascP xs
  | _ => false
def slipB (n : Int) : PV → Bool
  | .tup [a, b] => isBt 0 (n - 1) a && isF 1 b
  | _ => false
def fstP : PV → PV
  | .tup (a :: _) => a
  | v => v
def slB (n : Int) : PV → Bool
  | .tup xs => xs.all (slipB n) && ascP (xs.map fstP)
  | _ => false
def isK : PV → Bool
  | .str s => s == "keeper"
  | _ => false
def isNil : PV → Bool
  | .tup xs => xs.isEmpty
  | _ => false
def rowB (n : Int) : PV → Bool
  | .tup [a, b, c, d] => isW a && isF 0 b && mvB n c && slB n d && (isK a || isNil d)
  | _ => false
def gmB : PV → Bool
  | .tup xs => !xs.isEmpty && xs.all (rowB xs.length)
  | _ => false
/-- plain data -/
def okd (v : PV) : Bool := (toD v).isSome
theorem toDs_all : ∀ {xs : List PV}, (toDs xs).isSome = true → ∀ x ∈ xs, okd x = true
  | x :: xs, h, y, hy => by
    unfold toDs at h
    cases e1 : toD x with
    | none => rw [e1] at h; cases h
    | some d =>
      cases e2 : toDs xs with
      | none => rw [e1, e2] at h; cases h
      | some ds =>
        rcases List.mem_cons.mp hy with rfl | hy
        · unfold okd
          rw [e1]
          rfl
        · exact toDs_all (by rw [e2]; rfl) y hy
theorem okd_tup {xs : List PV} (h : okd (.tup xs) = true) : (toDs xs).isSome = true := by
  unfold okd toD at h
  cases e : toDs xs with
  | none => rw [e] at h; cases h
  | some _ => rfl
theorem okd_pl {v : PV} (h : okd v = true) : pl v = true := by
  cases v with
  | non => rfl
  | bl _ => rfl
  | int _ => rfl
  | str _ => rfl
  | tup _ => rfl
  | lst _ => rfl
  | _ => unfold okd toD at h; cases h
section
variable {Q : PV → Hv → Prop} {h : Hv}
def tyP : PV → String
  | .non => "NoneType" | .bl _ => "bool" | .int _ => "int" | .str _ => "str" | .tup _ => "tuple" | .lst _ => "list" | _ => "dict"
theorem wp_isi {c : String} {v : PV} (hv : pl v = true) : wp (bIsi c v h) Q = Q (.bl (tyP v == c || (tyP v == "bool" && c == "int"))) h := by
  cases v <;> first | (cases hv; done) | rfl
theorem blsOf_map {α : Type} (p : α → Bool) : ∀ xs : List α, blsOf (xs.map fun x => .bl (p x)) = some (xs.map p)
  | [] => rfl
  | x :: xs => by
    show (blsOf (xs.map fun x => .bl (p x))).map (p x :: ·) = _
    rw [blsOf_map p xs]
    rfl
theorem wp_allB {α : Type} {p : α → Bool} {xs : List α} : wp (bAll (.lst (xs.map fun x => .bl (p x))) h) Q = Q (.bl (xs.all p)) h := by
  unfold bAll
  show wp (match (some (xs.map fun x => PV.bl (p x))).bind blsOf with
    | some bs => Res.ok (.bl (bs.all id)) h
    | none => .stuck) Q = _
  rw [Option.bind_some, blsOf_map]
  simp only
  rw [List.all_map]
  rfl
theorem leave_bl {b : Bool} : wp (leave h.length (.ok (.bl b) h)) Q = Q (.bl b) h := by
  rw [leave_id rfl]
  rfl
theorem eq_nil {xs : List PV} (hx : (toDs xs).isSome = true) : eqB h (.tup xs) (.tup []) = some xs.isEmpty := by
  obtain ⟨ds, e⟩ := Option.isSome_iff_exists.mp hx
  have e1 : toDh h (.tup xs) = some (.tuple ds) := by
    show (toDs xs).map PyData.tuple = _
    rw [e]
    rfl
  show (match toDh h (.tup xs), toDh h (.tup []) with
    | some d, some e => if min d.depth e.depth ≤ 100 then some (PyData.eqv d e) else none
    | _, _ => none) = _
  rw [e1]
  show (if min (PyData.depth (.tuple ds)) (PyData.depth (.tuple [])) ≤ 100 then some (PyData.eqv (.tuple ds) (.tuple [])) else none) = _
  have e2 : PyData.depth (.tuple []) = 1 := by simp [PyData.depth, PyData.depthAll]
  rw [if_pos (by rw [e2]; omega)]
  cases xs with
  | nil => cases e; rfl
  | cons x xs =>
    unfold toDs at e
    cases q1 : toD x with
    | none => rw [q1] at e; cases e
    | some d =>
      cases q2 : toDs xs with
      | none => rw [q1, q2] at e; cases e
      | some r =>
        rw [q1, q2] at e
        cases e
        rfl
end
namespace K78
local macro_rules | `(tactic| walk_at "ev") => `(tactic| simp only [wps_seq, wps_put, wps_asg, wps_par, wps_if, wps_ret, wps_expr, wps_nil, wps_for, wp_bin, wp_un, wp_cst, wp_c1, wp_c2, wp_or, wp_and, wp_not, wp_if, wp_tVal, wp_tBl, wp_tAnd, wp_tOr, wp_tNot, wp_truth, wp_chain, wp_all0, wp_all1, wp_tup, wp_lst, wp_call, wp_meth, wp_part, wp_noPart, wp_slice, wp_iSeq, wp_iEnum, wp_eComp, wp_ok, wp_ret, wp_ofO, eVar_0, eVar_s, blQ_bl, gNm_ev, gTp_ev, gAll_nil, gAll_cons, stO_some, wipe_nil, wipe_cons, List.set, wp_addI, wp_subI, wp_negI, wp_intI, wp_intB, wp_max, wp_min, wp_eqC, wp_neC, wp_ltI, wp_gtI, wp_leI, wp_geI, Option.map_some, Option.bind_some])
local macro_rules | `(tactic| walk_at "st") => `(tactic| simp only [wps_put, wps_asg, wps_par, wps_if, wps_ret, wps_expr, wps_nil, wps_for, wp_bin, wp_un, wp_cst, wp_c1, wp_c2, wp_or, wp_and, wp_not, wp_if, wp_tVal, wp_tBl, wp_tAnd, wp_tOr, wp_tNot, wp_truth, wp_chain, wp_all0, wp_all1, wp_tup, wp_lst, wp_call, wp_meth, wp_part, wp_noPart, wp_slice, wp_iSeq, wp_iEnum, wp_eComp, wp_ok, wp_ret, wp_ofO, eVar_0, eVar_s, blQ_bl, gNm_ev, gTp_ev, gAll_nil, gAll_cons, stO_some, wipe_nil, wipe_cons, List.set, wp_addI, wp_subI, wp_negI, wp_intI, wp_intB, wp_max, wp_min, wp_eqC, wp_neC, wp_ltI, wp_gtI, wp_leI, wp_geI, Option.map_some, Option.bind_some])
local macro_rules | `(tactic| walk_at "start") => `(tactic| simp only [startS, List.map, List.length, List.cons_append, List.nil_append, List.replicate])
section
variable {t : List Cell} {Q : PV → Hv → Prop} {h : Hv} {N : Sg → Hv → Prop} {R : PV → Hv → Prop}
theorem is_integer_eq {v : PV} (hv : pl v = true) : c_is_integer [v] h = .ok (.bl (isI v)) h := by
  refine wp.to_eq (wp_runF ?_)
  unfold m_is_integer
  walk_at "start"
  walk_at "ev"
  simp only [wp_isi hv, truth_bl]
  walk_at "ev"
  cases v <;> first | (cases hv; done) | (simp [tyP, leave_bl, isI])
theorem is_between_eq {v : PV} {a b : Int} (hv : pl v = true) : c_is_between [v, .int a, .int b] h = .ok (.bl (isBt a b v)) h := by
  refine wp.to_eq (wp_runF ?_)
  unfold m_is_between
  walk_at "start"
  walk_at "ev"
  rw [is_integer_eq hv, wp_ok, truth_bl]
  walk_at "ev"
  cases v with
  | int i =>
    rw [if_pos (by simp [isI])]
    walk_at "ev"
    split
    · rename_i z
      rw [leave_bl]
      refine ⟨congrArg PV.bl ?_, rfl⟩
      show _ = (decide (a ≤ i) && decide (i ≤ b))
      rw [z]
      rfl
    · rename_i z
      rw [leave_bl]
      refine ⟨congrArg PV.bl ?_, rfl⟩
      show _ = (decide (a ≤ i) && decide (i ≤ b))
      rw [Bool.eq_false_iff.mpr z]
      rfl
  | _ => first | (cases hv; done) | (rw [if_neg (by simp [isI, tyP]), leave_bl]; exact ⟨rfl, rfl⟩)
theorem is_from_eq {v : PV} {a : Int} (hv : pl v = true) : c_is_from [v, .int a] h = .ok (.bl (isF a v)) h := by
  refine wp.to_eq (wp_runF ?_)
  unfold m_is_from
  walk_at "start"
  walk_at "ev"
  rw [is_integer_eq hv, wp_ok, truth_bl]
  walk_at "ev"
  cases v with
  | int i =>
    rw [if_pos (by simp [isI])]
    walk_at "ev"
    rw [leave_bl]
    exact ⟨rfl, rfl⟩
  | _ => first | (cases hv; done) | (rw [if_neg (by simp [isI, tyP]), leave_bl]; exact ⟨rfl, rfl⟩)
theorem is_tuple_eq {v : PV} {n : Nat} (hv : pl v = true) : c_is_tuple [v, .int n] h = .ok (.bl (isTn n v)) h := by
  refine wp.to_eq (wp_runF ?_)
  unfold m_is_tuple
  try walk_at "start"
  try walk_at "ev"
  rw [wp_isi hv]
  try walk_at "ev"
  rw [truth_bl]
  try walk_at "ev"
  cases v with
  | tup xs =>
    rw [if_pos (by simp [isI, tyP]), wp_len (n := xs.length) rfl]
    unfold natV
    rw [eqB_int]
    try walk_at "ev"
    rw [leave_bl]
    refine ⟨congrArg PV.bl ?_, rfl⟩
    exact decide_eq_decide.mpr ⟨fun z => by omega, fun z => by omega⟩
  | _ => first | (cases hv; done) | (rw [if_neg (by simp [isI, tyP]), leave_bl]; exact ⟨rfl, rfl⟩)
theorem is_word_eq {v : PV} (hv : pl v = true) : c_is_word [v, .tup [.str "keeper", .str "foe"]] h = .ok (.bl (isW v)) h := by
  refine wp.to_eq (wp_runF ?_)
  unfold m_is_word
  try walk_at "start"
  try walk_at "ev"
  rw [wp_isi hv]
  try walk_at "ev"
  rw [truth_bl]
  try walk_at "ev"
  cases v with
  | str s =>
    rw [if_pos (by simp [isI, tyP])]
    have e : inB h (.str s) (.tup [.str "keeper", .str "foe"]) = some (isW (.str s)) := by
      show (if (PyData.str s).depth ≤ 100 then some ([PyData.str "keeper", PyData.str "foe"].any fun e => PyData.eqv e (.str s)) else none) = _
      rw [if_pos (by simp [PyData.depth])]
      simp only [List.any_cons, List.any_nil, PyData.eqv, isW, Bool.or_false]
      rw [Bool.beq_comm (a := s), Bool.beq_comm (a := s)]
    show wp (M.ofO ((inB h (.str s) (.tup [.str "keeper", .str "foe"])).map PV.bl) h) _
    rw [e]
    try walk_at "ev"
    rw [leave_bl]
    exact ⟨rfl, rfl⟩
  | _ => first | (cases hv; done) | (rw [if_neg (by simp [isI, tyP]), leave_bl]; exact ⟨rfl, rfl⟩)
end
end K78
end HS
end
-- text k78pa
section
set_option Elab.async false
set_option linter.all false
set_option maxRecDepth 100000
set_option maxHeartbeats 8000000
namespace HS
open PySem PySem.Spec PyProof.Rows
def ltP : PV → Bool
  | .tup [.int a, .int b] => decide (a < b)
  | _ => false
theorem zip_asc : ∀ is : List Int, (zipP (is.map PV.int) ((is.map PV.int).drop 1)).all ltP = ascP (is.map PV.int)
  | [] => rfl
  | [a] => rfl
  | a :: b :: r => by
    have ih := zip_asc (b :: r)
    show (decide (a < b) && (zipP ((b :: r).map PV.int) (((b :: r).map PV.int).drop 1)).all ltP) = _
    rw [ih]
    rfl
theorem isI_all : ∀ {xs : List PV}, xs.all isI = true → ∃ is : List Int, xs = is.map .int
  | [], _ => ⟨[], rfl⟩
  | x :: xs, h => by
    rw [List.all_cons, Bool.and_eq_true] at h
    obtain ⟨is, rfl⟩ := isI_all h.2
    cases x with
    | int i => exact ⟨i :: is, rfl⟩
    | _ => cases h.1
theorem isBt_I {a b : Int} {v : PV} (h : isBt a b v = true) : isI v = true := by
  cases v <;> first | rfl | cases h
theorem drop1 (xs : List PV) : cutP xs (some 1) none = xs.drop 1 := by
  unfold cutP
  have e1 : HT.sIx xs.length 0 (some 1) = min 1 xs.length := rfl
  have e2 : HT.sIx xs.length xs.length none = xs.length := rfl
  rw [e1, e2]
  cases xs with
  | nil => rfl
  | cons x xs =>
    have e3 : min 1 (x :: xs).length = 1 := by simp only [List.length_cons]; omega
    rw [e3, List.drop_succ_cons, List.drop_zero]
    simp
section
variable {h : Hv} {σ : Sg}
theorem iZip_t {a b : ES} {xs ys : List PV} (ha : a σ h = .ok (.tup xs) h) (hb : b σ h = .ok (.tup ys) h) : iZip a b σ h = .ok (zipP xs ys, []) h := Eq.trans (bnd_ok ha) (Eq.trans (bnd_ok hb) rfl)
theorem iZip_l {a b : ES} {xs ys : List PV} (ha : a σ h = .ok (.lst xs) h) (hb : b σ h = .ok (.lst ys) h) : iZip a b σ h = .ok (zipP xs ys, []) h := Eq.trans (bnd_ok ha) (Eq.trans (bnd_ok hb) rfl)
theorem okd_ints {is : List Int} : (toDs (is.map .int)).isSome = true := by
  rw [toDs_map (g := PyData.int) (fun _ => rfl)]
  rfl
end
namespace K78
local macro_rules | `(tactic| walk_at "ev") => `(tactic| simp only [wps_seq, wps_put, wps_asg, wps_par, wps_if, wps_ret, wps_expr, wps_nil, wps_for, wp_bin, wp_un, wp_cst, wp_c1, wp_c2, wp_or, wp_and, wp_not, wp_if, wp_tVal, wp_tBl, wp_tAnd, wp_tOr, wp_tNot, wp_truth, wp_chain, wp_all0, wp_all1, wp_tup, wp_lst, wp_call, wp_meth, wp_part, wp_noPart, wp_slice, wp_iSeq, wp_iEnum, wp_eComp, wp_ok, wp_ret, wp_ofO, eVar_0, eVar_s, blQ_bl, gNm_ev, gTp_ev, gAll_nil, gAll_cons, stO_some, wipe_nil, wipe_cons, List.set, wp_addI, wp_subI, wp_negI, wp_intI, wp_intB, wp_max, wp_min, wp_eqC, wp_neC, wp_ltI, wp_gtI, wp_leI, wp_geI, Option.map_some, Option.bind_some])
local macro_rules | `(tactic| walk_at "st") => `(tactic| simp only [wps_put, wps_asg, wps_par, wps_if, wps_ret, wps_expr, wps_nil, wps_for, wp_bin, wp_un, wp_cst, wp_c1, wp_c2, wp_or, wp_and, wp_not, wp_if, wp_tVal, wp_tBl, wp_tAnd, wp_tOr, wp_tNot, wp_truth, wp_chain, wp_all0, wp_all1, wp_tup, wp_lst, wp_call, wp_meth, wp_part, wp_noPart, wp_slice, wp_iSeq, wp_iEnum, wp_eComp, wp_ok, wp_ret, wp_ofO, eVar_0, eVar_s, blQ_bl, gNm_ev, gTp_ev, gAll_nil, gAll_cons, stO_some, wipe_nil, wipe_cons, List.set, wp_addI, wp_subI, wp_negI, wp_intI, wp_intB, wp_max, wp_min, wp_eqC, wp_neC, wp_ltI, wp_gtI, wp_leI, wp_geI, Option.map_some, Option.bind_some])
local macro_rules | `(tactic| walk_at "start") => `(tactic| simp only [startS, List.map, List.length, List.cons_append, List.nil_append, List.replicate])
section
variable {t : List Cell} {Q : PV → Hv → Prop} {h : Hv} {N : Sg → Hv → Prop} {R : PV → Hv → Prop}
theorem zip_body {is : List Int} : compL [] (gTp [gNm 1, gNm 2]) tYes (eBin cLt (eVar 1) (eVar 2)) [some (.tup (is.map .int)), none, none] (zipP (is.map PV.int) ((is.map PV.int).drop 1)) h = .ok ((zipP (is.map PV.int) ((is.map PV.int).drop 1)).map fun x => .bl (ltP x)) h := by
  refine comp_map srcOk_nil _ fun x hx => ?_
  have hz : ∃ a b : Int, x = .tup [.int a, .int b] := by
    unfold zipP at hx
    obtain ⟨i, hi, rfl⟩ := List.mem_iff_getElem.mp hx
    rw [List.getElem_zipWith]
    simp only [List.getElem_map, List.getElem_drop]
    exact ⟨_, _, rfl⟩
  obtain ⟨a, b, rfl⟩ := hz
  refine ⟨_, rfl, wp.to_eq ?_⟩
  walk_at "ev"
  simp [ltP]
theorem do_ascend_eq {is : List Int} (hl : is.length < 100000) : c_do_ascend [.tup (is.map .int)] h = .ok (.bl (ascP (is.map .int))) h := by
  refine wp.to_eq (wp_runF ?_)
  unfold m_do_ascend
  walk_at "start"
  walk_at "ev"
  have e : eSlice false (eVar 0) (ePart (eCst (.int 1))) eNoPart [some (.tup (is.map PV.int)), none, none] h = .ok (.tup ((is.map PV.int).drop 1)) h := by
    refine wp.to_eq ?_
    walk_at "ev"
    show wp (Res.ok (PV.tup (cutP (is.map PV.int) (some 1) none)) h) _
    rw [drop1]
    exact ⟨rfl, rfl⟩
  rw [iZip_t rfl e]
  walk_at "ev"
  rw [zip_body]
  walk_at "ev"
  rw [wp_mkLf (by rw [List.length_map]; unfold zipP; rw [List.length_zipWith, List.length_map]; show _ ≤ 2 ^ 24; omega), wp_allB, leave_bl, zip_asc]
  exact ⟨rfl, rfl⟩
theorem do_ascendL_eq {is : List Int} (hl : is.length < 100000) : c_do_ascend [.lst (is.map .int)] h = .ok (.bl (ascP (is.map .int))) h := by
  refine wp.to_eq (wp_runF ?_)
  unfold m_do_ascend
  walk_at "start"
  walk_at "ev"
  have e : eSlice false (eVar 0) (ePart (eCst (.int 1))) eNoPart [some (.lst (is.map PV.int)), none, none] h = .ok (.lst ((is.map PV.int).drop 1)) h := by
    refine wp.to_eq ?_
    walk_at "ev"
    rw [wp_sliceL (by rw [List.length_map]; show _ ≤ 2 ^ 24; omega), drop1]
    exact ⟨rfl, rfl⟩
  rw [iZip_l rfl e]
  walk_at "ev"
  have z : compL [] (gTp [gNm 1, gNm 2]) tYes (eBin cLt (eVar 1) (eVar 2)) [some (.lst (is.map .int)), none, none] (zipP (is.map PV.int) ((is.map PV.int).drop 1)) h = .ok ((zipP (is.map PV.int) ((is.map PV.int).drop 1)).map fun x => .bl (ltP x)) h := by
    refine comp_map srcOk_nil _ fun x hx => ?_
    have hz : ∃ a b : Int, x = .tup [.int a, .int b] := by
      unfold zipP at hx
      obtain ⟨i, hi, rfl⟩ := List.mem_iff_getElem.mp hx
      rw [List.getElem_zipWith]
      simp only [List.getElem_map, List.getElem_drop]
      exact ⟨_, _, rfl⟩
    obtain ⟨a, b, rfl⟩ := hz
    refine ⟨_, rfl, wp.to_eq ?_⟩
    walk_at "ev"
    simp [ltP]
  rw [z]
  walk_at "ev"
  rw [wp_mkLf (by rw [List.length_map]; unfold zipP; rw [List.length_zipWith, List.length_map]; show _ ≤ 2 ^ 24; omega), wp_allB, leave_bl, zip_asc]
  exact ⟨rfl, rfl⟩
/-- a value whose parts are told -/
def PlD (v : PV) : Prop := pl v = true ∧ ∀ xs, v = .tup xs → (toDs xs).isSome = true ∧ xs.length < 100000
theorem are_moves_eq {v : PV} {n : Int} (hv : PlD v) : c_are_moves [v, .int n] h = .ok (.bl (mvB n v)) h := by
  refine wp.to_eq (wp_runF ?_)
  unfold m_are_moves
  walk_at "start"
  rw [wps_seq, wps_if, wp_tOr, wp_tNot, wp_tVal, wp_c1, eVar_0, wp_ok, wp_isi hv.1, wp_truth, truth_bl, wp_ofO]
  cases v with
  | tup xs =>
    obtain ⟨hd, hl⟩ := hv.2 xs rfl
    rw [if_neg (by simp [tyP])]
    walk_at "st"
    rw [wp_mkT0, eq_nil hd]
    walk_at "st"
    cases he : xs.isEmpty with
    | true =>
      rw [if_pos rfl]
      walk_at "ev"
      rw [leave_bl]
      refine ⟨congrArg PV.bl ?_, rfl⟩
      show _ = (!xs.isEmpty && xs.all (isBt 0 (n - 1)) && ascP xs)
      rw [he]
      rfl
    | false =>
      rw [if_neg (by decide), seqS_tup]
      walk_at "st"
      rw [comp_map (f := fun x => .bl (isBt 0 (n - 1) x)) srcOk_nil _ fun x hx => ?_]
      · walk_at "st"
        rw [wp_mkLf (by rw [List.length_map]; show _ ≤ 2 ^ 24; omega), wp_allB, truth_bl]
        walk_at "st"
        cases ha : xs.all (isBt 0 (n - 1)) with
        | false =>
          rw [if_pos (by rfl)]
          walk_at "ev"
          rw [leave_bl]
          refine ⟨congrArg PV.bl ?_, rfl⟩
          show _ = (!xs.isEmpty && xs.all (isBt 0 (n - 1)) && ascP xs)
          rw [ha]
          simp
        | true =>
          rw [if_neg (by decide)]
          obtain ⟨is, rfl⟩ := isI_all (List.all_eq_true.mpr fun x hx => isBt_I (List.all_eq_true.mp ha x hx))
          walk_at "ev"
          rw [do_ascend_eq (by rw [List.length_map] at hl; exact hl), wp_ok, leave_bl]
          refine ⟨congrArg PV.bl ?_, rfl⟩
          show _ = (!(is.map PV.int).isEmpty && (is.map PV.int).all (isBt 0 (n - 1)) && ascP (is.map PV.int))
          rw [ha, he]
          rfl
      · refine ⟨_, rfl, wp.to_eq ?_⟩
        walk_at "st"
        rw [is_between_eq (okd_pl (toDs_all hd x hx))]
        exact ⟨rfl, rfl⟩
  | _ =>
    first
    | (cases hv.1; done)
    | (rw [if_pos (by simp [tyP])]
       walk_at "ev"
       rw [leave_bl]
       exact ⟨rfl, rfl⟩)
theorem ixt0 {a : PV} {r : List PV} : ixB h (.tup (a :: r)) (.int 0) = some a := L2.atI_nat (j := 0) rfl
theorem ixt1 {a b : PV} {r : List PV} : ixB h (.tup (a :: b :: r)) (.int 1) = some b := L2.atI_nat (j := 1) rfl
theorem ixt2 {a b c : PV} {r : List PV} : ixB h (.tup (a :: b :: c :: r)) (.int 2) = some c := L2.atI_nat (j := 2) rfl
theorem ixt3 {a b c d : PV} {r : List PV} : ixB h (.tup (a :: b :: c :: d :: r)) (.int 3) = some d := L2.atI_nat (j := 3) rfl
theorem ix_tup {xs : List PV} {i : Nat} {v : PV} (e : xs[i]? = some v) : ixB h (.tup xs) (.int (i : Int)) = some v := L2.atI_nat e
theorem is_slip_eq {v : PV} {n : Int} (hv : okd v = true) : c_is_slip [v, .int n] h = .ok (.bl (slipB n v)) h := by
  refine wp.to_eq (wp_runF ?_)
  unfold m_is_slip
  walk_at "start"
  walk_at "ev"
  have e := is_tuple_eq (h := h) (n := 2) (okd_pl hv)
  rw [show ((2 : Nat) : Int) = 2 from rfl] at e
  rw [e, wp_ok, truth_bl]
  walk_at "ev"
  have no : ∀ v : PV, isTn 2 v = false → slipB n v = false := fun v h => by
    cases v with
    | tup xs =>
      have h := of_decide_eq_false h
      match xs, h with
      | [], _ => rfl
      | [_], _ => rfl
      | [_, _], h => exact absurd rfl h
      | _ :: _ :: _ :: _, _ => rfl
    | _ => rfl
  by_cases z : isTn 2 v = true
  · rw [if_pos z]
    cases v with
    | tup xs =>
      have hl : xs.length = 2 := of_decide_eq_true z
      match xs, hl with
      | [a, b], _ =>
        have hd := okd_tup hv
        rw [wp_ix ixt0]
        try walk_at "ev"
        rw [is_between_eq (okd_pl (toDs_all hd a (by simp))), wp_ok, truth_bl]
        walk_at "ev"
        split
        · rename_i z1
          rw [wp_ix ixt1]
          try walk_at "ev"
          rw [is_from_eq (okd_pl (toDs_all hd b (by simp))), wp_ok, leave_bl]
          refine ⟨congrArg PV.bl ?_, rfl⟩
          show _ = (isBt 0 (n - 1) a && isF 1 b)
          rw [z1]
          rfl
        · rename_i z1
          rw [leave_bl]
          refine ⟨congrArg PV.bl ?_, rfl⟩
          show _ = (isBt 0 (n - 1) a && isF 1 b)
          rw [Bool.eq_false_iff.mpr z1]
          rfl
    | _ => cases z
  · rw [if_neg z, leave_bl]
    refine ⟨congrArg PV.bl ?_, rfl⟩
    rw [no v (Bool.eq_false_iff.mpr z)]
    exact Bool.eq_false_iff.mpr z
theorem slip_two {n : Int} {v : PV} (h : slipB n v = true) : ∃ a b : Int, v = .tup [.int a, .int b] := by
  cases v with
  | tup xs =>
    match xs, h with
    | [a, b], h =>
      have h : (isBt 0 (n - 1) a && isF 1 b) = true := h
      rw [Bool.and_eq_true] at h
      cases a with
      | int i =>
        cases b with
        | int j => exact ⟨i, j, rfl⟩
        | _ => cases h.2
      | _ => cases h.1
  | _ => cases h
theorem slips_two {n : Int} : ∀ {xs : List PV}, xs.all (slipB n) = true → ∃ ps : List (Int × Int), xs = ps.map pairV
  | [], _ => ⟨[], rfl⟩
  | x :: xs, h => by
    rw [List.all_cons, Bool.and_eq_true] at h
    obtain ⟨ps, rfl⟩ := slips_two h.2
    obtain ⟨a, b, rfl⟩ := slip_two h.1
    exact ⟨(a, b) :: ps, rfl⟩
theorem are_slips_eq {v : PV} {n : Int} (hv : PlD v) : c_are_slips [v, .int n] h = .ok (.bl (slB n v)) h := by
  refine wp.to_eq (wp_runF ?_)
  unfold m_are_slips
  walk_at "start"
  rw [wps_seq, wps_if, wp_tOr, wp_tNot, wp_tVal, wp_c1, eVar_0, wp_ok, wp_isi hv.1, wp_truth, truth_bl, wp_ofO]
  cases v with
  | tup xs =>
    obtain ⟨hd, hl⟩ := hv.2 xs rfl
    rw [if_neg (by simp [tyP])]
    walk_at "st"
    rw [seqS_tup]
    walk_at "st"
    rw [comp_map (f := fun x => .bl (slipB n x)) srcOk_nil _ fun x hx => ?_]
    · walk_at "st"
      rw [wp_mkLf (by rw [List.length_map]; show _ ≤ 2 ^ 24; omega), wp_allB, truth_bl]
      walk_at "st"
      cases ha : xs.all (slipB n) with
      | false =>
        rw [if_pos (by rfl)]
        walk_at "ev"
        rw [leave_bl]
        refine ⟨congrArg PV.bl ?_, rfl⟩
        show _ = (xs.all (slipB n) && ascP (xs.map fstP))
        rw [ha]
        rfl
      | true =>
        rw [if_neg (by decide)]
        obtain ⟨ps, rfl⟩ := slips_two ha
        rw [List.length_map] at hl
        walk_at "ev"
        rw [seqS_tup]
        walk_at "ev"
        have ef : (ps.map pairV).map fstP = (ps.map (·.1)).map PV.int := by
          rw [List.map_map, List.map_map]
          rfl
        rw [comp_map (f := fstP) srcOk_nil _ fun x hx => ?_]
        · walk_at "ev"
          rw [ef, wp_mkLf (by rw [List.length_map, List.length_map]; show _ ≤ 2 ^ 24; omega), do_ascendL_eq (by rw [List.length_map]; exact hl), wp_ok, leave_bl]
          refine ⟨congrArg PV.bl ?_, rfl⟩
          show _ = ((ps.map pairV).all (slipB n) && ascP ((ps.map pairV).map fstP))
          rw [ha, ef]
          rfl
        · obtain ⟨p, hp, rfl⟩ := List.mem_map.mp hx
          refine ⟨_, rfl, wp.to_eq ?_⟩
          walk_at "ev"
          unfold pairV
          rw [wp_ix ixt0]
          exact ⟨rfl, rfl⟩
    · refine ⟨_, rfl, wp.to_eq ?_⟩
      walk_at "st"
      rw [is_slip_eq (toDs_all hd x hx)]
      exact ⟨rfl, rfl⟩
  | _ =>
    first
    | (cases hv.1; done)
    | (rw [if_pos (by simp [tyP])]
       walk_at "ev"
       rw [leave_bl]
       exact ⟨rfl, rfl⟩)
end
end K78
end HS
end
-- text k78pb
section
set_option Elab.async false
set_option linter.all false
set_option maxRecDepth 100000
set_option maxHeartbeats 8000000
namespace HS
open PySem PySem.Spec PyProof.Rows
mutual
/-- no long row within -/
def sm : PV → Bool
  | .tup xs => decide (xs.length < 1000) && sms xs
  | .lst xs => decide (xs.length < 1000) && sms xs
  | _ => true
def sms : List PV → Bool
  | [] => true
  | x :: xs => sm x && sms xs
end
theorem sms_all : ∀ {xs : List PV}, sms xs = true → ∀ x ∈ xs, sm x = true
  | y :: ys, h, x, hx => by
    unfold sms at h
    rw [Bool.and_eq_true] at h
    rcases List.mem_cons.mp hx with rfl | hx
    · exact h.1
    · exact sms_all h.2 x hx
theorem sms_of : ∀ {xs : List PV}, (∀ x ∈ xs, sm x = true) → sms xs = true
  | [], _ => rfl
  | x :: xs, h => by
    unfold sms
    rw [h x (List.mem_cons_self ..), sms_of fun y hy => h y (List.mem_cons_of_mem _ hy)]
    rfl
theorem sm_tup {xs : List PV} (h : sm (.tup xs) = true) : xs.length < 1000 ∧ sms xs = true := by
  unfold sm at h
  rw [Bool.and_eq_true, decide_eq_true_eq] at h
  exact h
/-- plain, not long -/
structure Okv (v : PV) : Prop where
  d : okd v = true
  s : sm v = true
theorem Okv.part {xs : List PV} (h : Okv (.tup xs)) : ∀ x ∈ xs, Okv x := fun x hx => ⟨toDs_all (okd_tup h.d) x hx, sms_all (sm_tup h.s).2 x hx⟩
theorem Okv.pld {v : PV} (h : Okv v) : K78.PlD v := ⟨okd_pl h.d, fun xs e => by
  subst e
  exact ⟨okd_tup h.d, by have := (sm_tup h.s).1; omega⟩⟩
theorem leave_exc {h : Hv} {e : PV} : leave h.length (.exc e h) = .exc e h := by
  unfold leave
  simp only [List.take_length]
  split <;> rfl
theorem leave_v {h : Hv} {v : PV} (hv : nrf 0 v = true) : leave h.length (.ok v h) = .ok v h := leave_id (K78.nrf_up (Nat.zero_le _) v hv)
theorem row_four {n : Int} {v : PV} (h : isTn 4 v = false) : rowB n v = false := by
  cases v with
  | tup xs =>
    have h := of_decide_eq_false h
    match xs, h with
    | [], _ => rfl
    | [_], _ => rfl
    | [_, _], _ => rfl
    | [_, _, _], _ => rfl
    | [_, _, _, _], h => exact absurd rfl h
    | _ :: _ :: _ :: _ :: _ :: _, _ => rfl
  | _ => rfl
theorem slB_tup {n : Int} {v : PV} (h : slB n v = true) : ∃ xs, v = .tup xs := by
  cases v with
  | tup xs => exact ⟨xs, rfl⟩
  | _ => cases h
theorem isW_str {v : PV} (h : isW v = true) : ∃ s, v = .str s := by
  cases v with
  | str s => exact ⟨s, rfl⟩
  | _ => cases h
namespace K78
local macro_rules | `(tactic| walk_at "ev") => `(tactic| simp only [wps_seq, wps_put, wps_asg, wps_par, wps_if, wps_ret, wps_expr, wps_nil, wps_for, wp_bin, wp_un, wp_cst, wp_c1, wp_c2, wp_or, wp_and, wp_not, wp_if, wp_tVal, wp_tBl, wp_tAnd, wp_tOr, wp_tNot, wp_truth, wp_chain, wp_all0, wp_all1, wp_tup, wp_lst, wp_call, wp_meth, wp_part, wp_noPart, wp_slice, wp_iSeq, wp_iEnum, wp_eComp, wp_ok, wp_ret, wp_ofO, eVar_0, eVar_s, blQ_bl, gNm_ev, gTp_ev, gAll_nil, gAll_cons, stO_some, wipe_nil, wipe_cons, List.set, wp_addI, wp_subI, wp_negI, wp_intI, wp_intB, wp_max, wp_min, wp_eqC, wp_neC, wp_ltI, wp_gtI, wp_leI, wp_geI, Option.map_some, Option.bind_some])
local macro_rules | `(tactic| walk_at "st") => `(tactic| simp only [wps_put, wps_asg, wps_par, wps_if, wps_ret, wps_expr, wps_nil, wps_for, wp_bin, wp_un, wp_cst, wp_c1, wp_c2, wp_or, wp_and, wp_not, wp_if, wp_tVal, wp_tBl, wp_tAnd, wp_tOr, wp_tNot, wp_truth, wp_chain, wp_all0, wp_all1, wp_tup, wp_lst, wp_call, wp_meth, wp_part, wp_noPart, wp_slice, wp_iSeq, wp_iEnum, wp_eComp, wp_ok, wp_ret, wp_ofO, eVar_0, eVar_s, blQ_bl, gNm_ev, gTp_ev, gAll_nil, gAll_cons, stO_some, wipe_nil, wipe_cons, List.set, wp_addI, wp_subI, wp_negI, wp_intI, wp_intB, wp_max, wp_min, wp_eqC, wp_neC, wp_ltI, wp_gtI, wp_leI, wp_geI, Option.map_some, Option.bind_some])
local macro_rules | `(tactic| walk_at "start") => `(tactic| simp only [startS, List.map, List.length, List.cons_append, List.nil_append, List.replicate])
section
variable {t : List Cell} {Q : PV → Hv → Prop} {h : Hv} {N : Sg → Hv → Prop} {R : PV → Hv → Prop}
theorem is_place_row_eq {v : PV} {n : Int} (hv : Okv v) : c_is_place_row [v, .int n] h = .ok (.bl (rowB n v)) h := by
  refine wp.to_eq (wp_runF ?_)
  unfold m_is_place_row
  walk_at "start"
  rw [wps_seq]
  walk_at "st"
  have e := is_tuple_eq (h := h) (n := 4) (okd_pl hv.d)
  rw [show ((4 : Nat) : Int) = 4 from rfl] at e
  rw [e, wp_ok, truth_bl]
  walk_at "st"
  cases ht : isTn 4 v with
  | false =>
    rw [if_pos (by rfl)]
    walk_at "ev"
    rw [leave_bl, row_four ht]
    exact ⟨rfl, rfl⟩
  | true =>
    rw [if_neg (by decide)]
    cases v with
    | tup xs =>
      have hl : xs.length = 4 := of_decide_eq_true ht
      match xs, hl with
      | [a, b, c, d], _ =>
        have oa := hv.part a (by simp)
        have ob := hv.part b (by simp)
        have oc := hv.part c (by simp)
        have od := hv.part d (by simp)
        have er : rowB n (.tup [a, b, c, d]) = (isW a && isF 0 b && mvB n c && slB n d && (isK a || isNil d)) := rfl
        have no : ∀ z, z = rowB n (.tup [a, b, c, d]) → z = false → wp (leave h.length (.ok (.bl false) h)) fun x h' => x = .bl (rowB n (.tup [a, b, c, d])) ∧ h' = h := fun z e1 e2 => by
          rw [leave_bl, ← e1, e2]
          exact ⟨rfl, rfl⟩
        rw [wp_ix ixt0, wp_mkT2, is_word_eq (okd_pl oa.d), wp_ok, truth_bl]
        walk_at "st"
        cases h1 : isW a with
        | false =>
          rw [if_pos (by rfl)]
          walk_at "ev"
          exact no _ rfl (by rw [er, h1]; rfl)
        | true =>
          rw [if_neg (by decide), wp_ix ixt1, is_from_eq (okd_pl ob.d), wp_ok, truth_bl]
          walk_at "st"
          cases h2 : isF 0 b with
          | false =>
            rw [if_pos (by rfl)]
            walk_at "ev"
            exact no _ rfl (by rw [er, h1, h2]; rfl)
          | true =>
            rw [if_neg (by decide)]
            walk_at "ev"
            rw [wp_ix ixt2, are_moves_eq oc.pld, wp_ok, truth_bl]
            walk_at "st"
            cases h3 : mvB n c with
            | false =>
              rw [if_pos (by rfl)]
              exact no _ rfl (by rw [er, h1, h2, h3]; rfl)
            | true =>
              rw [if_neg (by decide), wp_ix ixt3, are_slips_eq od.pld, wp_ok, truth_bl]
              walk_at "st"
              cases h4 : slB n d with
              | false =>
                rw [if_pos (by rfl)]
                exact no _ rfl (by rw [er, h1, h2, h3, h4]; rfl)
              | true =>
                rw [if_neg (by decide), wp_ix ixt0]
                obtain ⟨s, rfl⟩ := isW_str h1
                obtain ⟨ds, rfl⟩ := slB_tup h4
                rw [eqv_strs]
                walk_at "st"
                rw [truth_bl]
                walk_at "st"
                cases h5 : (s == ("keeper" : Str)) with
                | true =>
                  rw [if_pos rfl, leave_bl]
                  refine ⟨congrArg PV.bl ?_, rfl⟩
                  rw [er, h1, h2, h3, h4]
                  show true = ((s == "keeper") || ds.isEmpty)
                  rw [h5]
                  rfl
                | false =>
                  rw [if_neg (by decide), wp_ix ixt3]
                  try walk_at "st"
                  rw [wp_mkT0, eq_nil (okd_tup od.d)]
                  walk_at "st"
                  rw [leave_bl]
                  refine ⟨congrArg PV.bl ?_, rfl⟩
                  rw [er, h1, h2, h3, h4]
                  show _ = ((s == "keeper") || ds.isEmpty)
                  rw [h5]
                  rfl
    | _ => cases ht
theorem is_game_eq {v : PV} (hv : pl v = true) (hv2 : ∀ xs, v = .tup xs → Okv v) : c_is_game_value [v] h = .ok (.bl (gmB v)) h := by
  refine wp.to_eq (wp_runF ?_)
  unfold m_is_game_value
  walk_at "start"
  rw [wps_seq]
  walk_at "st"
  rw [wp_isi hv, truth_bl]
  walk_at "st"
  cases v with
  | tup xs =>
    have ov := hv2 xs rfl
    have hl := (sm_tup ov.s).1
    rw [if_pos (by simp [tyP]), wp_mkT0, eq_nil (okd_tup ov.d)]
    walk_at "st"
    rw [truth_bl]
    walk_at "st"
    cases he : xs.isEmpty with
    | true =>
      rw [if_neg (by decide), leave_bl]
      refine ⟨congrArg PV.bl ?_, rfl⟩
      show _ = (!xs.isEmpty && xs.all (rowB xs.length))
      rw [he]
      rfl
    | false =>
      rw [if_pos (by decide), seqS_tup]
      walk_at "st"
      rw [comp_map (f := fun x => .bl (rowB xs.length x)) srcOk_nil _ fun x hx => ?_]
      · walk_at "st"
        rw [wp_mkLf (by rw [List.length_map]; show _ ≤ 2 ^ 24; omega), wp_allB, leave_bl]
        refine ⟨congrArg PV.bl ?_, rfl⟩
        show _ = (!xs.isEmpty && xs.all (rowB xs.length))
        rw [he]
        rfl
      · refine ⟨_, rfl, wp.to_eq ?_⟩
        walk_at "st"
        rw [wp_len (n := xs.length) rfl]
        unfold natV
        rw [is_place_row_eq (ov.part x hx)]
        exact ⟨rfl, rfl⟩
  | _ =>
    first
    | (cases hv; done)
    | (rw [if_neg (by simp [tyP]), leave_bl]
       exact ⟨rfl, rfl⟩)
/-- a value that may be shown to need_game -/
structure Shw (v : PV) : Prop where
  p : pl v = true
  t : ∀ xs, v = .tup xs → Okv v
theorem sIf_run {tt : TSm} {a b : SS} {σ : Sg} {c : Bool} (e : tt σ h = .ok c h) : sIf tt a b σ h = if c then a σ h else b σ h := by
  show M.thn (tt σ) _ h = _
  unfold M.thn
  rw [e]
theorem run_F {n : Nat} {m : SS} {vs : List PV} {r : SR} (e : m (startS n vs) h = r) : runD false n m vs h = leave h.length (endS r) := by
  show leave h.length (endS (m (startS n vs) h)) = _
  rw [e]
theorem need_game_eq {v : PV} (hv : Shw v) : c_need_game [v] h = if gmB v then .ok .non h else .exc (.exc "BadGame" [("thing", v)]) h := by
  have e1 : (tNot (tVal (eCall c_is_game_value [(eVar 0)]))) [some v] h = .ok (!gmB v) h := by
    refine wp.to_eq ?_
    walk_at "st"
    rw [is_game_eq hv.p hv.t, wp_ok, truth_bl]
    exact ⟨rfl, rfl⟩
  have e2 : m_need_game [some v] h = if gmB v then .nx [some v] h else .exc (.exc "BadGame" [("thing", v)]) h := by
    unfold m_need_game sSeq
    rw [sIf_run e1]
    cases gmB v <;> rfl
  have e3 := run_F (n := 1) (vs := [v]) (m := m_need_game) e2
  show runD false 1 m_need_game [v] h = _
  rw [e3]
  cases gmB v with
  | true => exact leave_v rfl
  | false => exact leave_exc
end
end K78
end HS
end
-- text EvRpr
section
set_option Elab.async false
set_option linter.all false
set_option maxRecDepth 100000

/-! How long a shown value is. -/
namespace HS
open PySem
/-- signs of no wide number -/
def Low (s : Str) : Prop := ∀ c ∈ s.cps.toList, c < 16 ^ 8
theorem low_of (s : String) : Low (Str.ofString s) := fun c hc => by
  rw [Str.ofString_eq_toList] at hc
  simp only at hc
  obtain ⟨d, _, rfl⟩ := List.mem_map.mp (by simpa using hc)
  have := d.valid
  have h2 : d.toNat < 0x110000 := by
    rcases this with h | ⟨_, h⟩
    · exact Nat.lt_trans h (by decide)
    · exact h
  exact Nat.lt_trans h2 (by decide)
theorem low_app {a b : Str} (ha : Low a) (hb : Low b) : Low (a ++ b) := fun c hc => by
  have e : (a ++ b).cps.toList = a.cps.toList ++ b.cps.toList := by
    show (a.cps ++ b.cps).toList = _
    simp
  rw [e] at hc
  rcases List.mem_append.mp hc with h | h
  · exact ha c h
  · exact hb c h
theorem low_from : ∀ (ts : List Str) (k : Nat) (acc : Str), Low acc → (∀ t ∈ ts, Low t) → Low (textFrom k acc ts)
  | [], _, _, ha, _ => ha
  | t :: ts, k, acc, ha, ht => by
    unfold textFrom
    refine low_from ts _ _ (low_app (low_app ha ?_) (ht t (List.mem_cons_self ..))) fun u hu => ht u (List.mem_cons_of_mem _ hu)
    exact low_of _
theorem low_join {sep : Str} (hs : Low sep) : ∀ ts : List Str, (∀ t ∈ ts, Low t) → Low (Str.join sep ts)
  | [], _ => fun c hc => by cases hc
  | [x], h => h x (List.mem_cons_self ..)
  | x :: y :: r, h => by
    show Low (x ++ sep ++ Str.join sep (y :: r))
    exact low_app (low_app (h x (List.mem_cons_self ..)) hs) (low_join hs (y :: r) fun t ht => h t (List.mem_cons_of_mem _ ht))
theorem low_hex {w c : Nat} : ∀ x ∈ List.replicate (w - ((Nat.toDigits 16 c).map Char.toNat).length) 48 ++ (Nat.toDigits 16 c).map Char.toNat, x < 16 ^ 8 := fun x hx => by
  rcases List.mem_append.mp hx with h | h
  · rw [(List.mem_replicate.mp h).2]
    decide
  · obtain ⟨d, _, rfl⟩ := List.mem_map.mp h
    have := d.valid
    have h2 : d.toNat < 0x110000 := by
      rcases this with h | ⟨_, h⟩
      · exact Nat.lt_trans h (by decide)
      · exact h
    exact Nat.lt_trans h2 (by decide)
theorem low_char {q c : Nat} (hc : c < 16 ^ 8) : ∀ x ∈ Builtin.Str.reprChar q c, x < 16 ^ 8 := fun x hx => by
  unfold Builtin.Str.reprChar at hx
  dsimp only at hx
  split at hx
  · simp only [List.mem_cons, List.not_mem_nil, or_false] at hx
    rcases hx with rfl | rfl
    · decide
    · exact hc
  · split at hx
    · simp only [List.mem_cons, List.not_mem_nil, or_false] at hx
      rcases hx with rfl | rfl <;> decide
    · split at hx
      · simp only [List.mem_cons, List.not_mem_nil, or_false] at hx
        rcases hx with rfl | rfl <;> decide
      · split at hx
        · simp only [List.mem_cons, List.not_mem_nil, or_false] at hx
          rcases hx with rfl | rfl <;> decide
        · split at hx
          · rw [List.mem_singleton.mp hx]; exact hc
          · split at hx
            · rcases List.mem_append.mp hx with h | h
              · simp only [List.mem_cons, List.not_mem_nil, or_false] at h
                rcases h with rfl | rfl <;> decide
              · exact low_hex x h
            · split at hx
              · rcases List.mem_append.mp hx with h | h
                · simp only [List.mem_cons, List.not_mem_nil, or_false] at h
                  rcases h with rfl | rfl <;> decide
                · exact low_hex x h
              · rcases List.mem_append.mp hx with h | h
                · simp only [List.mem_cons, List.not_mem_nil, or_false] at h
                  rcases h with rfl | rfl <;> decide
                · exact low_hex x h
theorem low_fold {q : Nat} : ∀ (l : List Nat) (acc : Array Nat), (∀ c ∈ l, c < 16 ^ 8) → (∀ c ∈ acc.toList, c < 16 ^ 8) → ∀ c ∈ (l.foldl (fun out c => out ++ (Builtin.Str.reprChar q c).toArray) acc).toList, c < 16 ^ 8
  | [], acc, _, ha => ha
  | x :: l, acc, hl, ha => by
    rw [List.foldl_cons]
    refine low_fold l _ (fun c hc => hl c (List.mem_cons_of_mem _ hc)) fun c hc => ?_
    rw [Array.toList_append] at hc
    rcases List.mem_append.mp hc with h | h
    · exact ha c h
    · exact low_char (hl x (List.mem_cons_self ..)) c (by simpa using h)
theorem low_repr {x : Str} (h : Low x) : Low (reprText x) := by
  have hq : reprQuote x < 16 ^ 8 := by
    unfold reprQuote
    split <;> decide
  intro c hc
  unfold reprText at hc
  simp only [Array.toList_push] at hc
  rcases List.mem_append.mp hc with h1 | h1
  · rw [← Array.foldl_toList] at h1
    exact low_fold _ _ h (fun c hc => by
      have : c = reprQuote x := by simpa using hc
      rw [this]
      exact hq) c h1
  · rw [List.mem_singleton.mp h1]
    exact hq
mutual
theorem low_shown {B : Nat} : ∀ d : PyData, d.leavesShort B = true → Low d.shown
  | .none, _ => low_of _
  | .bool b, _ => by cases b <;> exact low_of _
  | .int i, _ => low_of _
  | .str x, h => low_repr fun c hc => by
    unfold PyData.leavesShort at h
    exact of_decide_eq_true (List.all_eq_true.mp h c hc)
  | .list xs, h => by
    show Low (textFrom 0 "[" (PyData.shownAll xs) ++ "]")
    exact low_app (low_from _ _ _ (low_of _) (low_shownAll xs (by unfold PyData.leavesShort at h; exact h))) (low_of _)
  | .tuple xs, h => by
    show Low (("(" : Str) ++ Str.join ", " (PyData.shownAll xs) ++ (if (PyData.shownAll xs).length == 1 then ",)" else ")" : String))
    exact low_app (low_app (low_of _) (low_join (low_of _) _ (low_shownAll xs (by unfold PyData.leavesShort at h; exact h)))) (low_of _)
  | .dict kvs, h => by
    show Low (("{" : Str) ++ Str.join ", " (PyData.shownKv kvs) ++ "}")
    exact low_app (low_app (low_of _) (low_join (low_of _) _ (low_shownKv kvs (by unfold PyData.leavesShort at h; exact h)))) (low_of _)
theorem low_shownAll {B : Nat} : ∀ ds : List PyData, PyData.leavesShortAll B ds = true → ∀ t ∈ PyData.shownAll ds, Low t
  | [], _, t, ht => by cases ht
  | d :: ds, h, t, ht => by
    unfold PyData.leavesShortAll at h
    rw [Bool.and_eq_true] at h
    rcases List.mem_cons.mp (show t ∈ d.shown :: PyData.shownAll ds from ht) with rfl | ht
    · exact low_shown d h.1
    · exact low_shownAll ds h.2 t ht
theorem low_shownKv {B : Nat} : ∀ ds : List (PyData × PyData), PyData.leavesShortKv B ds = true → ∀ t ∈ PyData.shownKv ds, Low t
  | [], _, t, ht => by cases ht
  | (a, b) :: ds, h, t, ht => by
    unfold PyData.leavesShortKv at h
    rw [Bool.and_eq_true, Bool.and_eq_true] at h
    rcases List.mem_cons.mp (show t ∈ (a.shown ++ ": " ++ b.shown) :: PyData.shownKv ds from ht) with rfl | ht
    · exact low_app (low_app (low_shown a h.1.1) (low_of _)) (low_shown b h.1.2)
    · exact low_shownKv ds h.2 t ht
end
/-- what may be shown, and how much it weighs -/
structure Dw (B W n : Nat) (d : PyData) : Prop where
  l : d.leavesShort B = true
  s : d.showable = true
  w : d.weight ≤ W
  d : d.depth ≤ n
/-- a value of such data -/
def Rp (B W n : Nat) (v : PV) : Prop := ∃ d, toD v = some d ∧ Dw B W n d
theorem Rp.mono {B W W' n n' : Nat} {v : PV} (h : Rp B W n v) (hw : W ≤ W') (hn : n ≤ n') : Rp B W' n' v := by
  obtain ⟨d, e, ⟨a, b, c, f⟩⟩ := h
  exact ⟨d, e, a, b, Nat.le_trans c hw, Nat.le_trans f hn⟩
theorem rp_non {B : Nat} : Rp B 0 0 .non := ⟨.none, rfl, rfl, rfl, Nat.le_refl _, Nat.le_refl _⟩
theorem rp_bl {B : Nat} {b : Bool} : Rp B 0 0 (.bl b) := ⟨.bool b, rfl, rfl, rfl, Nat.le_refl _, Nat.le_refl _⟩
theorem rp_int {B k : Nat} {i : Int} (hk : 0 < k) (hB : k + 1 ≤ B) (hi : i.natAbs < 10 ^ k) (hk2 : k ≤ 40) : Rp B 134 0 (.int i) := by
  have hlog : i.natAbs.log2 < 133 := by
    by_cases z : i.natAbs = 0
    · rw [z]; decide
    · rw [Nat.log2_lt z]
      exact Nat.lt_of_lt_of_le hi (Nat.le_trans (Nat.pow_le_pow_right (by decide) hk2) (by decide))
  refine ⟨.int i, rfl, ?_, ?_, ?_, Nat.le_refl _⟩
  · have e := int_text_length_le10 hk hi
    have e2 : (PyData.shown (.int i)).length ≤ B := by
      show (Str.ofString (toString i)).length ≤ B
      rw [ofString_length]
      omega
    exact decide_eq_true e2
  · exact decide_eq_true (by omega)
  · show (if i == 0 then 0 else i.natAbs.log2 + 1) ≤ 134
    split <;> omega
theorem rp_sint {B : Nat} {i : Int} (hB : 4 ≤ B) (hi : i.natAbs < 1000) : Rp B 10 0 (.int i) := by
  obtain ⟨d, e, a, b, c, f⟩ := rp_int (B := B) (k := 3) (i := i) (by decide) hB hi (by decide)
  cases e
  refine ⟨_, rfl, a, b, ?_, f⟩
  show (if i == 0 then 0 else i.natAbs.log2 + 1) ≤ 10
  split
  · omega
  · rename_i z
    have z2 : i.natAbs ≠ 0 := fun q => z (by rw [Int.natAbs_eq_zero.mp q]; rfl)
    have : i.natAbs.log2 < 10 := (Nat.log2_lt z2).mpr (by omega)
    omega
theorem rp_str {B : Nat} {s : Str} (h : Low s) : Rp B s.length 0 (.str s) := by
  refine ⟨.str s, rfl, ?_, rfl, Nat.le_refl _, Nat.le_refl _⟩
  unfold PyData.leavesShort
  exact List.all_eq_true.mpr fun c hc => decide_eq_true (h c hc)
theorem rps_of {B W n : Nat} : ∀ {xs : List PV}, (∀ x ∈ xs, Rp B W n x) → ∃ ds, toDs xs = some ds ∧ PyData.leavesShortAll B ds = true ∧ PyData.showableAll ds = true ∧ PyData.weightAll ds ≤ xs.length * (W + 1) ∧ PyData.depthAll ds ≤ n
  | [], _ => ⟨[], rfl, rfl, rfl, Nat.zero_le _, Nat.zero_le _⟩
  | x :: xs, h => by
    obtain ⟨d, e, a, b, c, f⟩ := h x (List.mem_cons_self ..)
    obtain ⟨ds, e2, a2, b2, c2, f2⟩ := rps_of fun y hy => h y (List.mem_cons_of_mem _ hy)
    refine ⟨d :: ds, ?_, ?_, ?_, ?_, ?_⟩
    · unfold toDs
      rw [e, e2]
    · unfold PyData.leavesShortAll
      rw [a, a2]
      rfl
    · unfold PyData.showableAll
      rw [b, b2]
      rfl
    · unfold PyData.weightAll
      rw [List.length_cons, Nat.add_mul]
      omega
    · unfold PyData.depthAll
      omega
theorem rp_tup {B W n k : Nat} {xs : List PV} (h : ∀ x ∈ xs, Rp B W n x) (hl : xs.length ≤ k) : Rp B (k * (W + 1)) (n + 1) (.tup xs) := by
  obtain ⟨ds, e, a, b, c, f⟩ := rps_of h
  refine ⟨.tuple ds, ?_, ?_, ?_, ?_, ?_⟩
  · show (toDs xs).map PyData.tuple = _
    rw [e]
    rfl
  · unfold PyData.leavesShort; exact a
  · unfold PyData.showable; exact b
  · unfold PyData.weight; exact Nat.le_trans c (Nat.mul_le_mul_right _ hl)
  · unfold PyData.depth; omega
theorem rp_lst {B W n k : Nat} {xs : List PV} (h : ∀ x ∈ xs, Rp B W n x) (hl : xs.length ≤ k) : Rp B (k * (W + 1)) (n + 1) (.lst xs) := by
  obtain ⟨ds, e, a, b, c, f⟩ := rps_of h
  refine ⟨.list ds, ?_, ?_, ?_, ?_, ?_⟩
  · show (toDs xs).map PyData.list = _
    rw [e]
    rfl
  · unfold PyData.leavesShort; exact a
  · unfold PyData.showable; exact b
  · unfold PyData.weight; exact Nat.le_trans c (Nat.mul_le_mul_right _ hl)
  · unfold PyData.depth; omega
theorem Dw.len {B W n : Nat} {d : PyData} (h : Dw B W n d) (hB : 8 ≤ B) : d.shown.length ≤ (B + 2) * W + B := by
  have := PyData.shown_le B hB d h.l
  have h2 : (B + 2) * d.weight ≤ (B + 2) * W := Nat.mul_le_mul_left _ h.w
  omega
/-- what repr gives -/
structure Rep (W : Nat) (v : PV) (s : Str) : Prop where
  d : ∃ d, (∀ h, reprD h v = some d) ∧ Dw 41 W 90 d ∧ d.shown = s
theorem Rp.rep {W : Nat} {v : PV} (h : Rp 41 W 90 v) : ∃ s, Rep W v s := by
  obtain ⟨d, e, w⟩ := h
  refine ⟨d.shown, ⟨d, fun h => ?_, w, rfl⟩⟩
  cases v with
  | dK kvs => cases e
  | ref k => cases e
  | _ => exact e
theorem rep_dict {W : Nat} : Rep W (.dK []) "{}" := ⟨.dict [], fun _ => rfl, ⟨rfl, rfl, Nat.zero_le _, by decide⟩, rfl⟩
theorem Rep.low {W : Nat} {v : PV} {s : Str} (h : Rep W v s) : Low s := by
  obtain ⟨d, _, w, rfl⟩ := h.d
  exact low_shown d w.l
theorem Rep.len {W : Nat} {v : PV} {s : Str} (h : Rep W v s) : s.length ≤ 43 * W + 41 := by
  obtain ⟨d, _, w, rfl⟩ := h.d
  exact w.len (by decide)
theorem Rep.run {W : Nat} {v : PV} {s : Str} {h : Hv} (r : Rep W v s) (hW : W ≤ 300000) : bRepr v h = .ok (.str s) h := by
  have hl := r.len
  obtain ⟨d, e, w, rfl⟩ := r.d
  unfold bRepr
  rw [e h]
  simp only
  rw [if_pos ⟨w.s, by rw [sizeLine_eq]; omega, by have := w.d; omega⟩]
end HS
end
-- text k78pc
section
set_option Elab.async false
set_option linter.all false
set_option maxRecDepth 100000
set_option maxHeartbeats 8000000
namespace HS
open PySem PySem.Spec PyProof.Rows
def chB (n : Int) : PV → Bool
  | .tup xs => xs.all (isBt 0 (n - 1)) && ascP xs
  | _ => false
namespace K78
local macro_rules | `(tactic| walk_at "ev") => `(tactic| simp only [wps_seq, wps_put, wps_asg, wps_par, wps_if, wps_ret, wps_expr, wps_nil, wps_for, wp_bin, wp_un, wp_cst, wp_c1, wp_c2, wp_or, wp_and, wp_not, wp_if, wp_tVal, wp_tBl, wp_tAnd, wp_tOr, wp_tNot, wp_truth, wp_chain, wp_all0, wp_all1, wp_tup, wp_lst, wp_call, wp_meth, wp_part, wp_noPart, wp_slice, wp_iSeq, wp_iEnum, wp_eComp, wp_ok, wp_ret, wp_ofO, eVar_0, eVar_s, blQ_bl, gNm_ev, gTp_ev, gAll_nil, gAll_cons, stO_some, wipe_nil, wipe_cons, List.set, wp_addI, wp_subI, wp_negI, wp_intI, wp_intB, wp_max, wp_min, wp_eqC, wp_neC, wp_ltI, wp_gtI, wp_leI, wp_geI, Option.map_some, Option.bind_some])
local macro_rules | `(tactic| walk_at "st") => `(tactic| simp only [wps_put, wps_asg, wps_par, wps_if, wps_ret, wps_expr, wps_nil, wps_for, wp_bin, wp_un, wp_cst, wp_c1, wp_c2, wp_or, wp_and, wp_not, wp_if, wp_tVal, wp_tBl, wp_tAnd, wp_tOr, wp_tNot, wp_truth, wp_chain, wp_all0, wp_all1, wp_tup, wp_lst, wp_call, wp_meth, wp_part, wp_noPart, wp_slice, wp_iSeq, wp_iEnum, wp_eComp, wp_ok, wp_ret, wp_ofO, eVar_0, eVar_s, blQ_bl, gNm_ev, gTp_ev, gAll_nil, gAll_cons, stO_some, wipe_nil, wipe_cons, List.set, wp_addI, wp_subI, wp_negI, wp_intI, wp_intB, wp_max, wp_min, wp_eqC, wp_neC, wp_ltI, wp_gtI, wp_leI, wp_geI, Option.map_some, Option.bind_some])
local macro_rules | `(tactic| walk_at "start") => `(tactic| simp only [startS, List.map, List.length, List.cons_append, List.nil_append, List.replicate])
section
variable {t : List Cell} {Q : PV → Hv → Prop} {h : Hv} {N : Sg → Hv → Prop} {R : PV → Hv → Prop}
theorem is_place_of_eq {xs : List PV} {v : PV} (hv : pl v = true) : c_is_place_of [.tup xs, v] h = .ok (.bl (isBt 0 (xs.length - 1) v)) h := by
  refine wp.to_eq (wp_runF ?_)
  unfold m_is_place_of
  walk_at "start"
  walk_at "ev"
  rw [wp_len (n := xs.length) rfl]
  unfold natV
  walk_at "ev"
  rw [is_between_eq hv, wp_ok, leave_bl]
  exact ⟨rfl, rfl⟩
theorem expr_exc {e : ES} {b : SS} {σ : Sg} {x : PV} (he : e σ h = .exc x h) : sSeq (sExpr e) b σ h = .exc x h := by
  unfold sSeq
  have e1 : sExpr e σ h = .exc x h := by
    show M.thn (e σ) _ h = _
    unfold M.thn
    rw [he]
  rw [e1]
  rfl
theorem expr_ok {e : ES} {b : SS} {σ : Sg} {v : PV} {h' : Hv} (he : e σ h = .ok v h') : sSeq (sExpr e) b σ h = b σ h' := by
  unfold sSeq
  have e1 : sExpr e σ h = .nx σ h' := by
    show M.thn (e σ) _ h = _
    unfold M.thn
    rw [he]
  rw [e1]
  rfl
theorem call_run {f : List PV → M PV} {as : List ES} {σ : Sg} {vs : List PV} (e : eAll as σ h = .ok vs h) : eCall f as σ h = f vs h := bnd_ok e
theorem need_places_eq {g c : PV} (hg : Shw g) (hc : Shw c) : c_need_places [g, c] h = if gmB g then (match g with
    | .tup xs => (if chB xs.length c then .ok .non h else .exc (.exc "BadPlaces" [("thing", c)]) h)
    | _ => .stuck) else .exc (.exc "BadGame" [("thing", g)]) h := by
  have ec : ∀ σ : Sg, σ = [some g, some c, none] → eCall c_need_game [(eVar 0)] σ h = if gmB g then .ok .non h else .exc (.exc "BadGame" [("thing", g)]) h := fun σ e => by
    subst e
    rw [call_run (vs := [g]) rfl, need_game_eq hg]
  cases hgm : gmB g with
  | false =>
    have e2 : m_need_places [some g, some c, none] h = .exc (.exc "BadGame" [("thing", g)]) h := by
      unfold m_need_places
      refine expr_exc ?_
      rw [ec _ rfl, hgm]
      rfl
    have e3 := run_F (n := 3) (vs := [g, c]) (m := m_need_places) e2
    show runD false 3 m_need_places [g, c] h = _
    rw [e3]
    exact leave_exc
  | true =>
    cases g with
    | tup xs =>
      have e1 : (tOr (tNot (tVal (eCall1 (bIsi "tuple") (eVar 1)))) (tOr (tNot (tVal (eCall1 bAll (eComp false [2] (iSeq (eVar 1)) (gNm 2) tYes (eCall c_is_place_of [(eVar 0), (eVar 2)]))))) (tNot (tVal (eCall c_do_ascend [(eVar 1)]))))) [some (.tup xs), some c, none] h = .ok (!chB xs.length c) h := by
        refine wp.to_eq ?_
        rw [wp_tOr, wp_tNot, wp_tVal, wp_c1, eVar_s, eVar_0, wp_ok, wp_isi hc.p, wp_truth, truth_bl, wp_ofO]
        cases c with
        | tup cs =>
          have oc := hc.t cs rfl
          have hcl := (sm_tup oc.s).1
          rw [if_neg (by simp [tyP])]
          walk_at "st"
          rw [seqS_tup]
          walk_at "st"
          rw [comp_map (f := fun x => .bl (isBt 0 (xs.length - 1) x)) srcOk_nil _ fun x hx => ?_]
          · walk_at "st"
            rw [wp_mkLf (by rw [List.length_map]; show _ ≤ 2 ^ 24; omega), wp_allB, truth_bl]
            walk_at "st"
            have eb : chB xs.length (.tup cs) = (cs.all (isBt 0 (xs.length - 1)) && ascP cs) := rfl
            cases ha : cs.all (isBt 0 ((xs.length : Int) - 1)) with
            | false =>
              rw [if_pos (by rfl), eb, ha]
              simp
            | true =>
              rw [if_neg (by decide)]
              obtain ⟨is, rfl⟩ := isI_all (List.all_eq_true.mpr fun x hx => isBt_I (List.all_eq_true.mp ha x hx))
              rw [do_ascend_eq (by rw [List.length_map] at hcl; omega), wp_ok, truth_bl, eb, ha]
              exact ⟨rfl, rfl⟩
          · refine ⟨_, rfl, wp.to_eq ?_⟩
            walk_at "st"
            rw [is_place_of_eq (okd_pl (oc.part x hx).d)]
            exact ⟨rfl, rfl⟩
        | _ =>
          first
          | (have := hc.p; cases this; done)
          | (rw [if_pos (by simp [tyP])]
             exact ⟨rfl, rfl⟩)
      have e2 : m_need_places [some (.tup xs), some c, none] h = if chB xs.length c then .nx [some (.tup xs), some c, none] h else .exc (.exc "BadPlaces" [("thing", c)]) h := by
        unfold m_need_places
        rw [expr_ok (v := .non) (h' := h) (by rw [ec _ rfl, hgm]; rfl)]
        unfold sSeq
        rw [sIf_run e1]
        cases chB xs.length c <;> rfl
      have e3 := run_F (n := 3) (vs := [.tup xs, c]) (m := m_need_places) e2
      show runD false 3 m_need_places [.tup xs, c] h = _
      rw [e3, if_pos rfl]
      simp only
      cases chB xs.length c with
      | true => exact leave_v rfl
      | false => exact leave_exc
    | _ => cases hgm
theorem in_ints {v : Int} {cs : List Int} : inB h (.int v) (.tup (cs.map .int)) = some (decide (v ∈ cs)) := by
  show (match toDs (cs.map PV.int) with
    | some ds => if (PyData.int v).depth ≤ 100 then some (ds.any fun e => PyData.eqv e (.int v)) else none
    | none => none) = _
  rw [toDs_map (g := PyData.int) (fun _ => rfl)]
  simp only
  rw [if_pos (by simp [PyData.depth])]
  congr 1
  rw [List.any_map, Bool.eq_iff_iff, List.any_eq_true, decide_eq_true_eq]
  constructor
  · rintro ⟨x, hx, e⟩
    have e : (x == v) = true := e
    rw [← eq_of_beq e]
    exact hx
  · intro hv
    exact ⟨v, hv, beq_self_eq_true v⟩
theorem wp_in {v w : PV} {b : Bool} (e : inB h v w = some b) : wp (cIn v w h) Q = Q (.bl b) h := by
  show wp (M.ofO ((inB h v w).map PV.bl) h) Q = _
  rw [e]
  rfl
theorem wp_marked {g : List Row} {cs : List Int} {m o : Int} (q : D t h) (ht : Cl t) (hgl : g.length < 1000) (hq : ∀ g' h', g'.length = g.length → D t h' → Q (gameV g') h') : wp (c_marked [gameV g, .tup (cs.map .int), .int m, .int o] h) Q := by
  refine wp_runF ?_
  unfold m_marked
  walk_at "start"
  rw [wps_seq]
  walk_at "st"
  rw [wp_mkLt (by exact Nat.zero_le _), q.len]
  try walk_at "st"
  rw [wps_seq]
  walk_at "st"
  show wp (M.ofO (some (enumP (g.map Row.v), [])) _) _
  walk_at "st"
  have q1 : D (t ++ [.lst (([] : List Row).map Row.v)]) (h ++ [.lst []]) := (Dnil q).push
  refine wps_forL (I := fun xs σ h2 => ∃ (k : Nat) (rows : List Row) (x5 x6 x7 x8 x9 : Option PV), k ≤ g.length ∧ rows.length = k ∧ xs = (enumP (g.map Row.v)).drop k ∧ σ = [some (gameV g), some (.tup (cs.map .int)), some (.int m), some (.int o), some (.ref (t.length + 2)), x5, x6, x7, x8, x9] ∧ D (t ++ [.lst (rows.map Row.v)]) h2) (enumP (g.map Row.v)) _ _ ?_ ?_ ⟨0, [], none, none, none, none, none, Nat.zero_le _, rfl, rfl, rfl, q1⟩
  · rintro x rest σ h2 ⟨k, rows, x5, x6, x7, x8, x9, hk, hl, hx, rfl, q2⟩
    have hel : (enumP (g.map Row.v)).length = g.length := by rw [enumP_eq, enumR_len, List.length_map]
    have hk2 : k < g.length := by
      have e := congrArg List.length hx
      rw [List.length_drop, hel] at e
      simp only [List.length_cons] at e
      omega
    have eget : (enumP (g.map Row.v))[k]'(by rw [hel]; exact hk2) = .tup [.int (k : Int), g[k].v] := by
      have e := enumR_get (g.map Row.v) 0 k (by rw [List.length_map]; exact hk2)
      simp only [enumP_eq]
      rw [e, List.getElem_map]
      congr 3
      omega
    rw [List.drop_eq_getElem_cons (by rw [hel]; exact hk2), eget] at hx
    obtain ⟨rfl, rfl⟩ := List.cons.inj hx
    refine ⟨srcOk_nil, _, rfl, ?_⟩
    walk_at "ev"
    refine ⟨by rw [recv_of q2.at_]; rfl, ?_⟩
    rw [wp_in in_ints]
    walk_at "ev"
    have fin : ∀ mk : Int, wp (mkT [.str (own g[k].k), .int mk, .tup (g[k].mv.map .int), .tup (g[k].sl.map pairV)] h2) fun xs h => wp (mAppend (.ref (t.length + 2)) [xs] h) fun _ h2 => ∃ (k' : Nat) (rows : List Row) (x5 x6 x7 x8 x9 : Option PV), k' ≤ g.length ∧ rows.length = k' ∧ (enumP (g.map Row.v)).drop (k + 1) = (enumP (g.map Row.v)).drop k' ∧ [some (gameV g), some (.tup (cs.map .int)), some (.int m), some (.int o), some (.ref (t.length + 2)), some (.int (k : Int)), some (.str (own g[k].k)), some (.int g[k].mark), some (.tup (g[k].mv.map .int)), some (.tup (g[k].sl.map pairV))] = [some (gameV g), some (.tup (cs.map .int)), some (.int m), some (.int o), some (.ref (t.length + 2)), x5, x6, x7, x8, x9] ∧ D (t ++ [.lst (rows.map Row.v)]) h2 := fun mk => by
      rw [wp_mkT4, wp_app q2.at_ (by rw [List.length_map]; show _ < 2 ^ 24; omega)]
      have q3 := q2.put (c' := .lst (rows.map Row.v ++ [.tup [.str (own g[k].k), .int mk, .tup (g[k].mv.map .int), .tup (g[k].sl.map pairV)]]))
      have e : rows.map Row.v ++ [.tup [.str (own g[k].k), .int mk, .tup (g[k].mv.map .int), .tup (g[k].sl.map pairV)]] = (rows ++ [(⟨g[k].k, mk, g[k].mv, g[k].sl⟩ : Row)]).map Row.v := by
        rw [List.map_append]
        rfl
      rw [e] at q3 ⊢
      exact ⟨k + 1, _, _, _, _, _, _, hk2, by rw [List.length_append, hl]; rfl, rfl, rfl, q3⟩
    split
    · exact fin m
    · exact fin o
  · rintro σ h2 ⟨k, rows, x5, x6, x7, x8, x9, hk, hl, hx, rfl, q2⟩
    have hel : (enumP (g.map Row.v)).length = g.length := by rw [enumP_eq, enumR_len, List.length_map]
    have hk2 : k = g.length := by
      have e := congrArg List.length hx
      rw [List.length_drop, hel] at e
      simp only [List.length_nil] at e
      omega
    refine ⟨srcOk_nil, ?_⟩
    walk_at "ev"
    rw [wp_tuple (lst_of q2.at_) (by rw [List.length_map]; show _ ≤ 2 ^ 24; omega)]
    have z := wp_leave (Q := Q) (v := gameV rows) q ht q2 (nrf_game _ _) fun h3 q3 => hq rows h3 (by omega) q3
    rw [q.len] at z
    exact z
theorem wp_stopped {g : List Row} {cs : List Int} (q : D t h) (ht : Cl t) (hgl : g.length < 1000) (hq : ∀ g' h', g'.length = g.length → D t h' → Q (gameV g') h') : wp (c_stopped [gameV g, .tup (cs.map .int)] h) Q := by
  refine wp_runF ?_
  unfold m_stopped
  walk_at "start"
  rw [wps_seq]
  walk_at "st"
  rw [wp_mkLt (by exact Nat.zero_le _), q.len]
  try walk_at "st"
  rw [wps_seq]
  walk_at "st"
  show wp (M.ofO (some (enumP (g.map Row.v), [])) _) _
  walk_at "st"
  have q1 : D (t ++ [.lst (([] : List Row).map Row.v)]) (h ++ [.lst []]) := (Dnil q).push
  refine wps_forL (I := fun xs σ h2 => ∃ (k : Nat) (rows : List Row) (x5 x6 x7 x8 x9 : Option PV), k ≤ g.length ∧ rows.length = k ∧ xs = (enumP (g.map Row.v)).drop k ∧ σ = [some (gameV g), some (.tup (cs.map .int)), some (.ref (t.length + 2)), x5, x6, x7, x8, x9] ∧ D (t ++ [.lst (rows.map Row.v)]) h2) (enumP (g.map Row.v)) _ _ ?_ ?_ ⟨0, [], none, none, none, none, none, Nat.zero_le _, rfl, rfl, rfl, q1⟩
  · rintro x rest σ h2 ⟨k, rows, x5, x6, x7, x8, x9, hk, hl, hx, rfl, q2⟩
    have hel : (enumP (g.map Row.v)).length = g.length := by rw [enumP_eq, enumR_len, List.length_map]
    have hk2 : k < g.length := by
      have e := congrArg List.length hx
      rw [List.length_drop, hel] at e
      simp only [List.length_cons] at e
      omega
    have eget : (enumP (g.map Row.v))[k]'(by rw [hel]; exact hk2) = .tup [.int (k : Int), g[k].v] := by
      have e := enumR_get (g.map Row.v) 0 k (by rw [List.length_map]; exact hk2)
      simp only [enumP_eq]
      rw [e, List.getElem_map]
      congr 3
      omega
    rw [List.drop_eq_getElem_cons (by rw [hel]; exact hk2), eget] at hx
    obtain ⟨rfl, rfl⟩ := List.cons.inj hx
    refine ⟨srcOk_nil, _, rfl, ?_⟩
    walk_at "ev"
    refine ⟨by rw [recv_of q2.at_]; rfl, ?_⟩
    rw [wp_in in_ints]
    walk_at "ev"
    have fin : ∀ (mv : List Int) (sl : List (Int × Int)), wp (mkT [.str (own g[k].k), .int g[k].mark, .tup (mv.map .int), .tup (sl.map pairV)] h2) fun xs h => wp (mAppend (.ref (t.length + 2)) [xs] h) fun _ h2 => ∃ (k' : Nat) (rows : List Row) (x5 x6 x7 x8 x9 : Option PV), k' ≤ g.length ∧ rows.length = k' ∧ (enumP (g.map Row.v)).drop (k + 1) = (enumP (g.map Row.v)).drop k' ∧ [some (gameV g), some (.tup (cs.map .int)), some (.ref (t.length + 2)), some (.int (k : Int)), some (.str (own g[k].k)), some (.int g[k].mark), some (.tup (g[k].mv.map .int)), some (.tup (g[k].sl.map pairV))] = [some (gameV g), some (.tup (cs.map .int)), some (.ref (t.length + 2)), x5, x6, x7, x8, x9] ∧ D (t ++ [.lst (rows.map Row.v)]) h2 := fun mv sl => by
      rw [wp_mkT4, wp_app q2.at_ (by rw [List.length_map]; show _ < 2 ^ 24; omega)]
      have q3 := q2.put (c' := .lst (rows.map Row.v ++ [.tup [.str (own g[k].k), .int g[k].mark, .tup (mv.map .int), .tup (sl.map pairV)]]))
      have e : rows.map Row.v ++ [.tup [.str (own g[k].k), .int g[k].mark, .tup (mv.map .int), .tup (sl.map pairV)]] = (rows ++ [(⟨g[k].k, g[k].mark, mv, sl⟩ : Row)]).map Row.v := by
        rw [List.map_append]
        rfl
      rw [e] at q3 ⊢
      exact ⟨k + 1, _, _, _, _, _, _, hk2, by rw [List.length_append, hl]; rfl, rfl, rfl, q3⟩
    split
    · rw [wp_mkT1, wp_mkT0]
      exact fin [(k : Int)] []
    · exact fin _ _
  · rintro σ h2 ⟨k, rows, x5, x6, x7, x8, x9, hk, hl, hx, rfl, q2⟩
    have hel : (enumP (g.map Row.v)).length = g.length := by rw [enumP_eq, enumR_len, List.length_map]
    have hk2 : k = g.length := by
      have e := congrArg List.length hx
      rw [List.length_drop, hel] at e
      simp only [List.length_nil] at e
      omega
    refine ⟨srcOk_nil, ?_⟩
    walk_at "ev"
    rw [wp_tuple (lst_of q2.at_) (by rw [List.length_map]; show _ ≤ 2 ^ 24; omega)]
    have z := wp_leave (Q := Q) (v := gameV rows) q ht q2 (nrf_game _ _) fun h3 q3 => hq rows h3 (by omega) q3
    rw [q.len] at z
    exact z
theorem run_then {n : Nat} {a b : SS} {vs : List PV} {e : ES} {v : PV} (he : e (startS n vs) h = .ok v h) (p : wp (runD false n b vs h) Q) : wp (runD false n (sSeq (sExpr e) b) vs h) Q := by
  show wp (leave h.length (endS (sSeq (sExpr e) b (startS n vs) h))) Q
  rw [expr_ok he]
  exact p
theorem places_ok {g : List Row} {cs : List Int} (hg : Shw (gameV g)) (hc : Shw (.tup (cs.map .int))) (h1 : gmB (gameV g) = true) (h2 : chB g.length (.tup (cs.map .int)) = true) : eCall c_need_places [(eVar 0), (eVar 1)] [some (gameV g), some (.tup (cs.map .int))] h = .ok .non h := by
  rw [call_run (vs := [gameV g, .tup (cs.map .int)]) rfl, need_places_eq hg hc, h1]
  show (if chB ((g.map Row.v).length) (.tup (cs.map .int)) = true then Res.ok PV.non h else _) = _
  rw [List.length_map, if_pos h2]
/-- each of the four, on what is right -/
theorem four_ok {g : List Row} {cs : List Int} (q : D t h) (ht : Cl t) (hgl : g.length < 1000) (hg : Shw (gameV g)) (hc : Shw (.tup (cs.map .int))) (h1 : gmB (gameV g) = true) (h2 : chB g.length (.tup (cs.map .int)) = true) (hq : ∀ g' h', D t h' → Q (gameV g') h') :
    wp (c_safe_game [gameV g, .tup (cs.map .int)] h) Q ∧ wp (c_reach_game [gameV g, .tup (cs.map .int)] h) Q ∧ wp (c_again_game [gameV g, .tup (cs.map .int)] h) Q ∧ wp (c_seldom_game [gameV g, .tup (cs.map .int)] h) Q := by
  have two : ∀ m o : Int, wp (runD false 2 (sSeq (sRet (eCall c_stopped [(eCall c_marked [(eVar 0), (eVar 1), (eCst (.int m)), (eCst (.int o))]), (eVar 1)])) sNil) [gameV g, .tup (cs.map .int)] h) Q := fun m o => by
    refine wp_runF ?_
    walk_at "start"
    walk_at "ev"
    refine wp_marked q ht hgl fun g' h' hl q' => ?_
    refine wp_stopped q' ht (by omega) fun g2 h2 hl2 q2 => ?_
    exact wp_leave q ht (Dnil q2) (nrf_game _ _) fun h3 q3 => hq g2 h3 q3
  have one : ∀ m o : Int, wp (runD false 2 (sSeq (sRet (eCall c_marked [(eVar 0), (eVar 1), (eCst (.int m)), (eCst (.int o))])) sNil) [gameV g, .tup (cs.map .int)] h) Q := fun m o => by
    refine wp_runF ?_
    walk_at "start"
    walk_at "ev"
    refine wp_marked q ht hgl fun g' h' hl q' => ?_
    exact wp_leave q ht (Dnil q') (nrf_game _ _) fun h3 q3 => hq g' h3 q3
  exact ⟨run_then (a := sNil) (places_ok hg hc h1 h2) (two 1 0), run_then (a := sNil) (places_ok hg hc h1 h2) (two 2 1), run_then (a := sNil) (places_ok hg hc h1 h2) (one 2 1), run_then (a := sNil) (places_ok hg hc h1 h2) (one 1 0)⟩
/-- .. and on what is none -/
theorem four_no {g c e : PV} (he : c_need_places [g, c] h = .exc e h) :
    c_safe_game [g, c] h = .exc e h ∧ c_reach_game [g, c] h = .exc e h ∧ c_again_game [g, c] h = .exc e h ∧ c_seldom_game [g, c] h = .exc e h := by
  have z : ∀ b : SS, runD false 2 (sSeq (sExpr (eCall c_need_places [(eVar 0), (eVar 1)])) b) [g, c] h = .exc e h := fun b => by
    show leave h.length (endS (sSeq (sExpr (eCall c_need_places [(eVar 0), (eVar 1)])) b [some g, some c] h)) = _
    rw [expr_exc (x := e) (by rw [call_run (vs := [g, c]) rfl, he])]
    exact leave_exc
  exact ⟨z _, z _, z _, z _⟩
end
end K78
end HS
end
-- text k78pd
section
set_option Elab.async false
set_option linter.all false
set_option maxRecDepth 100000
set_option maxHeartbeats 8000000
namespace HS
open PySem PySem.Spec PyProof.Rows
mutual
theorem okv_w {be bc : Bool} : ∀ v : PV, okv true true v = true → okv be bc v = true
  | .tup xs, h => by unfold okv at h ⊢; exact okvs_w xs h
  | .lst xs, h => by unfold okv at h ⊢; exact okvs_w xs h
  | .dK kvs, h => by unfold okv at h ⊢; exact okvk_w kvs h
  | .exc _ _, h => by unfold okv at h; cases h
  | .cb, h => by unfold okv at h; cases h
  | .dT _, h => by unfold okv at h; cases h
  | .non, _ => rfl
  | .bl _, _ => rfl
  | .int _, _ => rfl
  | .str _, _ => rfl
  | .set _, _ => rfl
  | .scr _, _ => rfl
  | .rng _ _, _ => rfl
  | .fn _, _ => rfl
  | .ref _, _ => rfl
theorem okvs_w {be bc : Bool} : ∀ v : List PV, okvs true true v = true → okvs be bc v = true
  | [], _ => rfl
  | v :: vs, h => by
    unfold okvs at h ⊢
    rw [Bool.and_eq_true] at h ⊢
    exact ⟨okv_w v h.1, okvs_w vs h.2⟩
theorem okvk_w {be bc : Bool} : ∀ v : List (Key × PV), okvk true true v = true → okvk be bc v = true
  | [], _ => rfl
  | (_, v) :: vs, h => by
    unfold okvk at h ⊢
    rw [Bool.and_eq_true] at h ⊢
    exact ⟨okv_w v h.1, okvk_w vs h.2⟩
end
theorem okC_w {be bc : Bool} : ∀ c : Cell, okC true true c = true → okC be bc c = true
  | .lst xs, h => okvs_w xs h
  | .dK kvs, h => okvk_w kvs h
  | .dT _, h => by cases h
  | .ins _ _, h => by cases h
/-- no exception, no callback in the cells -/
def Ok2 (t : List Cell) : Prop := t.all (okC true true) = true
theorem okvs_ints {be bc : Bool} : ∀ ns : List Int, okvs be bc (ns.map .int) = true
  | [] => rfl
  | _ :: ns => by
    show (true && okvs be bc (ns.map .int)) = true
    rw [okvs_ints ns]
    rfl
namespace K78
local macro_rules | `(tactic| walk_at "ev") => `(tactic| simp only [wps_seq, wps_put, wps_asg, wps_par, wps_if, wps_ret, wps_expr, wps_nil, wps_for, wp_bin, wp_un, wp_cst, wp_c1, wp_c2, wp_or, wp_and, wp_not, wp_if, wp_tVal, wp_tBl, wp_tAnd, wp_tOr, wp_tNot, wp_truth, wp_chain, wp_all0, wp_all1, wp_tup, wp_lst, wp_call, wp_meth, wp_part, wp_noPart, wp_slice, wp_iSeq, wp_iEnum, wp_eComp, wp_ok, wp_ret, wp_ofO, eVar_0, eVar_s, blQ_bl, gNm_ev, gTp_ev, gAll_nil, gAll_cons, stO_some, wipe_nil, wipe_cons, List.set, wp_addI, wp_subI, wp_negI, wp_intI, wp_intB, wp_max, wp_min, wp_eqC, wp_neC, wp_ltI, wp_gtI, wp_leI, wp_geI, Option.map_some, Option.bind_some])
local macro_rules | `(tactic| walk_at "st") => `(tactic| simp only [wps_put, wps_asg, wps_par, wps_if, wps_ret, wps_expr, wps_nil, wps_for, wp_bin, wp_un, wp_cst, wp_c1, wp_c2, wp_or, wp_and, wp_not, wp_if, wp_tVal, wp_tBl, wp_tAnd, wp_tOr, wp_tNot, wp_truth, wp_chain, wp_all0, wp_all1, wp_tup, wp_lst, wp_call, wp_meth, wp_part, wp_noPart, wp_slice, wp_iSeq, wp_iEnum, wp_eComp, wp_ok, wp_ret, wp_ofO, eVar_0, eVar_s, blQ_bl, gNm_ev, gTp_ev, gAll_nil, gAll_cons, stO_some, wipe_nil, wipe_cons, List.set, wp_addI, wp_subI, wp_negI, wp_intI, wp_intB, wp_max, wp_min, wp_eqC, wp_neC, wp_ltI, wp_gtI, wp_leI, wp_geI, Option.map_some, Option.bind_some])
local macro_rules | `(tactic| walk_at "start") => `(tactic| simp only [startS, List.map, List.length, List.cons_append, List.nil_append, List.replicate])
section
variable {t : List Cell} {Q : PV → Hv → Prop} {h : Hv} {N : Sg → Hv → Prop} {R : PV → Hv → Prop}
theorem D.ok {be bc : Bool} (q : D t h) (ho : Ok2 t) : h.all (okC be bc) = true := by
  obtain ⟨ns, m, d, rfl, _⟩ := q
  show (okvs be bc (ns.map .int) && (okvk be bc [(kC, .ref 0), (kM, .int m), (kD, .int d)] && t.all (okC be bc))) = true
  rw [okvs_ints]
  have e : t.all (okC be bc) = true := List.all_eq_true.mpr fun c hc => okC_w c (List.all_eq_true.mp ho c hc)
  rw [e]
  rfl
theorem tried_eq (m : M PV) : t__law_tried m h = leave h.length (endT (endS (g__law_tried (cbG m) [some .cb, none, none] h))) := rfl
theorem try_ok {n i : Nat} {sub : Str → Option Bool} {kl : Str → Bool} {b g : SS} {σ σ' : Sg} {h' : Hv} (e : b σ h = .nx σ' h') : sTry n i sub kl b g σ h = .nx σ' h' := by
  unfold sTry
  rw [e]
theorem try_exc {n i : Nat} {sub : Str → Option Bool} {kl : Str → Bool} {b g : SS} {σ : Sg} {h' : Hv} {c : Str} {fs : List (Str × PV)} (e : b σ h = .exc (.exc c fs) h') (hk : kl c = true) (hs : sub c = some true) : sTry n i sub kl b g σ h = endX n (g ((List.replicate n none).set i (some (.exc c fs))) h') := by
  unfold sTry
  rw [e]
  simp only
  rw [if_pos hk, hs]
theorem tried_ok {m : M PV} (q : D t h) (ht : Cl t) (ho : Ok2 t) (hm : wp (m h) fun _ h' => D t h') (hq : ∀ h', D t h' → Q (.tup [.str "returned"]) h') : wp (t__law_tried m h) Q := by
  obtain ⟨v, h', e, q'⟩ := hm.eq
  have e1 : cbG m h = .ok v h' := by
    unfold cbG
    rw [if_pos (q.ok ho), e]
  have e2 : sSeq (sExpr (eCb 0 (cbG m))) sNil [some .cb, none, none] h = .nx [some .cb, none, none] h' := by
    rw [expr_ok (v := v) (h' := h') (by show M.bnd (eVar 0 [some .cb, none, none]) _ h = _; exact (bnd_ok rfl).trans e1)]
    rfl
  have e3 : g__law_tried (cbG m) [some .cb, none, none] h = .ret (.tup [.str "returned"]) h' := by
    unfold g__law_tried
    unfold sSeq
    rw [try_ok (σ' := [some .cb, none, none]) (h' := h') (by have := e2; unfold sSeq at this; exact this)]
    rfl
  rw [tried_eq, e3]
  show wp (leave h.length (if okv false true (.tup [.str "returned"]) = true ∧ h'.all (okC false true) = true then .ok (.tup [.str "returned"]) h' else .stuck)) Q
  rw [if_pos ⟨rfl, q'.ok ho⟩]
  exact wp_leave q ht (Dnil q') rfl hq
theorem lst_in {b : Bool} : inB h (.bl true) (.lst [.bl b, .bl (!b)]) = some true := by
  cases b <;> rfl
theorem tried_exc {m : M PV} {c s : Str} {x : PV} {b : Bool} {W : Nat} (q : D t h) (ho : Ok2 t) (hm : m h = .exc (.exc c [("thing", x)]) h) (hc : klX c = true ∧ subX c "SlipError" = some true ∧ subX c "BadGame" = some b ∧ subX c "BadPlaces" = some (!b)) (r : Rep W x s) (hW : W ≤ 300000) :
    t__law_tried m h = .ok (.tup [.str "raised", .lst [.bl b, .bl (!b)], .str s]) h := by
  have e1 : cbG m h = .exc (.exc c [("thing", x)]) h := by
    unfold cbG
    rw [if_pos (q.ok ho), hm]
  have e2 : sSeq (sExpr (eCb 0 (cbG m))) sNil [some .cb, none, none] h = .exc (.exc c [("thing", x)]) h := by
    refine expr_exc ?_
    show M.bnd (eVar 0 [some .cb, none, none]) _ h = _
    exact (bnd_ok rfl).trans e1
  have e4 : wps (sSeq (sAsg (gNm 2) (eLst false [(eIsx subX 1 "BadGame"), (eIsx subX 1 "BadPlaces")])) (sSeq (sRet (eTup [(eCst (.str "raised")), (eVar 2), (eIf (tBl (eBin cIn (eCst (.bl true)) (eVar 2))) (eCall1 bRepr (eFld 1 "thing")) (eCst .non))])) sNil) [none, some (.exc c [("thing", x)]), none] h) (fun _ _ => False) (fun v h' => v = .tup [.str "raised", .lst [.bl b, .bl (!b)], .str s] ∧ h' = h) := by
    have i1 : eIsx subX 1 "BadGame" [none, some (.exc c [("thing", x)]), none] h = .ok (.bl b) h := by
      refine (bnd_ok (a := PV.exc c [("thing", x)]) (h' := h) rfl).trans ?_
      show M.ofO ((subX c "BadGame").map PV.bl) h = _
      rw [hc.2.2.1]
      rfl
    have i2 : eIsx subX 1 "BadPlaces" [none, some (.exc c [("thing", x)]), none] h = .ok (.bl (!b)) h := by
      refine (bnd_ok (a := PV.exc c [("thing", x)]) (h' := h) rfl).trans ?_
      show M.ofO ((subX c "BadPlaces").map PV.bl) h = _
      rw [hc.2.2.2]
      rfl
    have i3 : ∀ z, eFld 1 "thing" [none, some (.exc c [("thing", x)]), z] h = .ok x h := fun z => by
      refine (bnd_ok (a := PV.exc c [("thing", x)]) (h' := h) rfl).trans ?_
      show M.ofO (List.lookup ("thing" : Str) [(("thing" : Str), x)]) h = _
      have e : List.lookup ("thing" : Str) [(("thing" : Str), x)] = some x := by
        show (match ("thing" : Str) == "thing" with | true => some x | false => none) = some x
        rw [beq_self_eq_true]
      rw [e]
      rfl
    walk_at "ev"
    rw [i1, wp_ok, i2, wp_ok, wp_mkL2]
    try walk_at "ev"
    rw [wp_in lst_in]
    try walk_at "ev"
    rw [if_pos trivial, i3, wp_ok, r.run hW, wp_ok, wp_mkT3]
    exact ⟨rfl, rfl⟩
  have e5 : sSeq (sAsg (gNm 2) (eLst false [(eIsx subX 1 "BadGame"), (eIsx subX 1 "BadPlaces")])) (sSeq (sRet (eTup [(eCst (.str "raised")), (eVar 2), (eIf (tBl (eBin cIn (eCst (.bl true)) (eVar 2))) (eCall1 bRepr (eFld 1 "thing")) (eCst .non))])) sNil) [none, some (.exc c [("thing", x)]), none] h = .ret (.tup [.str "raised", .lst [.bl b, .bl (!b)], .str s]) h := by
    revert e4
    generalize sSeq (sAsg (gNm 2) (eLst false [(eIsx subX 1 "BadGame"), (eIsx subX 1 "BadPlaces")])) (sSeq (sRet (eTup [(eCst (.str "raised")), (eVar 2), (eIf (tBl (eBin cIn (eCst (.bl true)) (eVar 2))) (eCall1 bRepr (eFld 1 "thing")) (eCst .non))])) sNil) [none, some (.exc c [("thing", x)]), none] h = rr
    intro e4
    cases rr with
    | ret v h' => obtain ⟨rfl, rfl⟩ := e4; rfl
    | _ => exact e4.elim
  have e3 : g__law_tried (cbG m) [some .cb, none, none] h = .ret (.tup [.str "raised", .lst [.bl b, .bl (!b)], .str s]) h := by
    unfold g__law_tried
    have e6 := try_exc (n := 3) (i := 1) (sub := fun x => subX x "SlipError") (kl := klX) (g := sSeq (sAsg (gNm 2) (eLst false [(eIsx subX 1 "BadGame"), (eIsx subX 1 "BadPlaces")])) (sSeq (sRet (eTup [(eCst (.str "raised")), (eVar 2), (eIf (tBl (eBin cIn (eCst (.bl true)) (eVar 2))) (eCall1 bRepr (eFld 1 "thing")) (eCst .non))])) sNil)) e2 hc.1 hc.2.1
    show SR.then (sTry 3 1 (fun x => subX x "SlipError") klX _ _ _ h) _ = _
    rw [e6]
    show SR.then (endX 3 (sSeq _ _ [none, some (.exc c [("thing", x)]), none] h)) _ = _
    rw [e5]
    show SR.then (if okv true false (.tup [.str "raised", .lst [.bl b, .bl (!b)], .str s]) = true ∧ h.all (okC true false) = true then .ret (.tup [.str "raised", .lst [.bl b, .bl (!b)], .str s]) h else .stuck) _ = _
    rw [if_pos ⟨rfl, q.ok ho⟩]
    rfl
  rw [tried_eq, e3]
  show leave h.length (if okv false true (.tup [.str "raised", .lst [.bl b, .bl (!b)], .str s]) = true ∧ h.all (okC false true) = true then .ok (.tup [.str "raised", .lst [.bl b, .bl (!b)], .str s]) h else .stuck) = _
  rw [if_pos ⟨rfl, q.ok ho⟩]
  exact leave_v rfl
theorem cls_game : klX "BadGame" = true ∧ subX "BadGame" "SlipError" = some true ∧ subX "BadGame" "BadGame" = some true ∧ subX "BadGame" "BadPlaces" = some (!true) := by decide +kernel
theorem cls_places : klX "BadPlaces" = true ∧ subX "BadPlaces" "SlipError" = some true ∧ subX "BadPlaces" "BadGame" = some false ∧ subX "BadPlaces" "BadPlaces" = some (!false) := by decide +kernel
theorem disp_cons {m : Bool} {k v : ES} {r : List (ES × ES)} {σ : Sg} {acc : List (Key × PV)} {h h1 h2 : Hv} {x y : PV} {c : Key} (e1 : k σ h = .ok x h1) (e2 : keyOf x = some c) (e3 : v σ h1 = .ok y h2) : eDisp m ((k, v) :: r) σ acc h = eDisp m r σ (acc ++ [(c, y)]) h2 := by
  show M.bnd (k σ) (fun x => match keyOf x with
    | some c => M.bnd (v σ) fun y => eDisp m r σ (acc ++ [(c, y)])
    | none => M.stk) h = _
  rw [bnd_ok e1, e2]
  exact bnd_ok e3
/-- the deck is laid -/
theorem wp_deck {ns : List Int} (hl : ns.length ≤ 63) (hq : ∀ h', D [] h' → Q (.ref 1) h') : wp (c__law_deck [.scr ns] []) Q := by
  refine wp_runK ?_
  unfold m__law_deck
  walk_at "start"
  rw [wps_seq]
  walk_at "st"
  rw [wps_seq]
  walk_at "st"
  have ec : sSlice false (.scr ns) none (some 63) [] = .ok (.lst (ns.map .int)) [] := by
    show mkL false (cutP (ns.map .int) none (some 63)) [] = _
    have e : cutP (ns.map PV.int) none (some 63) = ns.map .int := by
      unfold cutP
      have e1 : HT.sIx (ns.map PV.int).length 0 none = 0 := rfl
      have e2 : HT.sIx (ns.map PV.int).length (ns.map PV.int).length (some 63) = min 63 (ns.map PV.int).length := rfl
      rw [e1, e2, List.drop_zero, List.take_of_length_le]
      rw [List.length_map]
      omega
    rw [e]
    unfold mkL
    rw [if_pos (by rw [List.length_map]; show _ ≤ 2 ^ 24; omega)]
    rfl
  rw [ec, wp_ok, seqS_lst]
  walk_at "st"
  refine wps_forL (I := fun xs σ h => h = [] ∧ ∃ (m : Int) (x2 : Option PV) (is : List Int), σ = [some (.scr ns), some (.int m), x2] ∧ xs = is.map .int) (ns.map .int) _ _ ?_ ?_ ⟨rfl, 15378885, none, ns, rfl, rfl⟩
  · rintro x rest σ h2 ⟨rfl, m, x2, is, rfl, hx⟩
    cases is with
    | nil => cases hx
    | cons i is =>
      obtain ⟨rfl, rfl⟩ := List.cons.inj hx
      refine ⟨srcOk_nil, _, rfl, ?_⟩
      walk_at "ev"
      rw [wp_mulI (.inr ⟨by decide, by decide⟩), wp_modI (by decide)]
      walk_at "ev"
      rw [wp_modI (by decide)]
      exact ⟨rfl, _, _, is, rfl, rfl⟩
  · rintro σ h2 ⟨rfl, m, x2, is, rfl, hx⟩
    refine ⟨srcOk_nil, ?_⟩
    walk_at "ev"
    have e1 : eCall1 (bList false) (eSlice false (eVar 0) eNoPart (ePart (eCst (.int 63)))) [some (.scr ns), some (.int m), x2] [] = .ok (.lst (ns.map .int)) [] := by
      refine wp.to_eq ?_
      walk_at "ev"
      rw [ec, wp_ok, wp_listS rfl (by rw [List.length_map]; show _ ≤ 2 ^ 24; omega)]
      exact ⟨rfl, rfl⟩
    have e2 : eUn (sRev true) (eCall1 (bList false) (eSlice false (eVar 0) eNoPart (ePart (eCst (.int 63))))) [some (.scr ns), some (.int m), x2] [] = .ok (.ref 0) [.lst (ns.reverse.map .int)] := by
      refine (bnd_ok e1).trans ?_
      show mkL true (ns.map PV.int).reverse [] = _
      unfold mkL
      rw [if_pos (by rw [List.length_reverse, List.length_map]; show _ ≤ 2 ^ 24; omega), List.map_reverse]
      rfl
    have e3 : eDisp true [((eCst (.str "cells")), (eUn (sRev true) (eCall1 (bList false) (eSlice false (eVar 0) eNoPart (ePart (eCst (.int 63))))))), ((eCst (.str "mixed")), (eVar 1)), ((eCst (.str "draws")), (eCst (.int 0)))] [some (.scr ns), some (.int m), x2] [] [] = .ok (.ref 1) (dh ns.reverse m 0 []) := by
      rw [disp_cons (x := .str "cells") (c := kC) rfl rfl e2, disp_cons (x := .str "mixed") (c := kM) (y := .int m) rfl rfl rfl, disp_cons (x := .str "draws") (c := kD) (y := .int 0) rfl rfl rfl]
      kernel_rfl
    show wp (eDisp true _ _ [] []) _
    rw [e3]
    exact hq _ ⟨_, _, _, rfl, by rw [List.length_reverse]; exact hl⟩
end
end K78
end HS
end
-- text k78pe
section
set_option Elab.async false
set_option linter.all false
set_option maxRecDepth 100000
set_option maxHeartbeats 8000000
namespace HS
open PySem PySem.Spec PyProof.Rows
open K78 (nrfs_each Shw)
/-- plain, not long, of bounded weight -/
structure Gv (W n : Nat) (v : PV) : Prop where
  rp : Rp 41 W n v
  sm : sm v = true
  nr : nrf 0 v = true
theorem Gv.up {W W' n n' : Nat} {v : PV} (g : Gv W n v) (h1 : W ≤ W') (h2 : n ≤ n') : Gv W' n' v := ⟨g.rp.mono h1 h2, g.sm, g.nr⟩
theorem Gv.okv {W n : Nat} {v : PV} (g : Gv W n v) : Okv v := ⟨by
  obtain ⟨d, e, _⟩ := g.rp
  unfold okd
  rw [e]
  rfl, g.sm⟩
theorem gv_tup {W n k : Nat} {xs : List PV} (h : ∀ x ∈ xs, Gv W n x) (hl : xs.length ≤ k) (hk : k < 1000) : Gv (k * (W + 1)) (n + 1) (.tup xs) := by
  refine ⟨rp_tup (fun x hx => (h x hx).rp) hl, ?_, nrfs_each fun x hx => (h x hx).nr⟩
  unfold sm
  rw [sms_of fun x hx => (h x hx).sm, decide_eq_true (by omega)]
  rfl
theorem gv_lst {W n k : Nat} {xs : List PV} (h : ∀ x ∈ xs, Gv W n x) (hl : xs.length ≤ k) (hk : k < 1000) : Gv (k * (W + 1)) (n + 1) (.lst xs) := by
  refine ⟨rp_lst (fun x hx => (h x hx).rp) hl, ?_, nrfs_each fun x hx => (h x hx).nr⟩
  unfold sm
  rw [sms_of fun x hx => (h x hx).sm, decide_eq_true (by omega)]
  rfl
theorem gv_non : Gv 0 0 .non := ⟨rp_non, rfl, rfl⟩
theorem gv_bl {b : Bool} : Gv 0 0 (.bl b) := ⟨rp_bl, rfl, rfl⟩
theorem gv_int {i : Int} (h : i.natAbs < 1000) : Gv 10 0 (.int i) := ⟨rp_sint (by decide) h, rfl, rfl⟩
theorem gv_str {s : String} (h : (Str.ofString s).length ≤ 20) : Gv 20 0 (.str (Str.ofString s)) := ⟨(rp_str (low_of s)).mono h (Nat.le_refl _), rfl, rfl⟩
theorem gv_ints {k : Nat} {is : List Int} (h : ∀ i ∈ is, i.natAbs < 1000) (hl : is.length ≤ k) (hk : k < 1000) : Gv (k * 11) 1 (.tup (is.map .int)) := gv_tup (fun x hx => by
  obtain ⟨i, hi, rfl⟩ := List.mem_map.mp hx
  exact gv_int (h i hi)) (by rw [List.length_map]; exact hl) hk
theorem gv_intsL {k : Nat} {is : List Int} (h : ∀ i ∈ is, i.natAbs < 1000) (hl : is.length ≤ k) (hk : k < 1000) : Gv (k * 11) 1 (.lst (is.map .int)) := gv_lst (fun x hx => by
  obtain ⟨i, hi, rfl⟩ := List.mem_map.mp hx
  exact gv_int (h i hi)) (by rw [List.length_map]; exact hl) hk
theorem ev1 {p : PV → Prop} {a : PV} (ha : p a) : ∀ x ∈ [a], p x := fun x hx => by rw [List.mem_singleton.mp hx]; exact ha
theorem ev2 {p : PV → Prop} {a b : PV} (ha : p a) (hb : p b) : ∀ x ∈ [a, b], p x := fun x hx => by
  simp only [List.mem_cons, List.not_mem_nil, or_false] at hx
  rcases hx with rfl | rfl
  · exact ha
  · exact hb
theorem ev3 {p : PV → Prop} {a b c : PV} (ha : p a) (hb : p b) (hc : p c) : ∀ x ∈ [a, b, c], p x := fun x hx => by
  simp only [List.mem_cons, List.not_mem_nil, or_false] at hx
  rcases hx with rfl | rfl | rfl
  · exact ha
  · exact hb
  · exact hc
theorem ev4 {p : PV → Prop} {a b c d : PV} (ha : p a) (hb : p b) (hc : p c) (hd : p d) : ∀ x ∈ [a, b, c, d], p x := fun x hx => by
  simp only [List.mem_cons, List.not_mem_nil, or_false] at hx
  rcases hx with rfl | rfl | rfl | rfl
  · exact ha
  · exact hb
  · exact hc
  · exact hd
theorem gv_pair {p : Int × Int} (h1 : p.1.natAbs < 1000) (h2 : p.2.natAbs < 1000) : Gv 22 1 (pairV p) := gv_tup (k := 2) (ev2 (gv_int h1) (gv_int h2)) (Nat.le_refl _) (by decide)
theorem gv_own {k : Bool} : Gv 170 2 (.str (own k)) := by
  cases k
  · exact (gv_str (s := "foe") (by decide +kernel)).up (by decide) (by decide)
  · exact (gv_str (s := "keeper") (by decide +kernel)).up (by decide) (by decide)
theorem gv_kw {s : String} (h : (Str.ofString s).length ≤ 20) : Gv 170 2 (.str (Str.ofString s)) := (gv_str h).up (by decide) (by decide)
section
variable {n W : Int} {r : Row}
theorem row_mv (h : RowOk n W r) (hn : n ≤ 5) : Gv 170 2 (.tup (r.mv.map .int)) := by
  have hl : r.mv.length ≤ 5 := asc_len (a := 0) h.ma fun u hu => by have := h.mb u hu; omega
  exact (gv_ints (k := 5) (fun i hi => by have := h.mb i hi; omega) hl (by decide)).up (by decide) (by decide)
theorem row_sl_len (h : RowOk n W r) (hn : n ≤ 5) : r.sl.length ≤ 5 := by
  have := asc_len (n := 5) (a := 0) h.sa fun u hu => by
    obtain ⟨p, hp, rfl⟩ := List.mem_map.mp hu
    have := h.sb p hp
    omega
  rw [List.length_map] at this
  exact this
theorem row_sl (h : RowOk n W r) (hn : n ≤ 5) (hW : W ≤ 900) : Gv 170 2 (.tup (r.sl.map pairV)) := by
  refine (gv_tup (k := 5) (W := 22) (n := 1) (fun x hx => ?_) (by rw [List.length_map]; exact row_sl_len h hn) (by decide)).up (by decide) (by decide)
  obtain ⟨p, hp, rfl⟩ := List.mem_map.mp hx
  have := h.sb p hp
  exact gv_pair (by omega) (by omega)
theorem row_mark (h : RowOk n W r) : Gv 170 2 (.int r.mark) := (gv_int (by have := h.mr; omega)).up (by decide) (by decide)
theorem gv_four {a b c d : PV} (ha : Gv 170 2 a) (hb : Gv 170 2 b) (hc : Gv 170 2 c) (hd : Gv 170 2 d) : Gv 700 3 (.tup [a, b, c, d]) := (gv_tup (k := 4) (ev4 ha hb hc hd) (Nat.le_refl _) (by decide)).up (by decide) (by decide)
theorem gv_row (h : RowOk n W r) (hn : n ≤ 5) (hW : W ≤ 900) : Gv 700 3 r.v := gv_four gv_own (row_mark h) (row_mv h hn) (row_sl h hn hW)
theorem gv_game {g : List Row} (h : GameOk W g) (hn : (g.length : Int) ≤ 5) (hW : W ≤ 900) : Gv 4206 4 (gameV g) := (gv_tup (k := 6) (fun x hx => by
  obtain ⟨r, hr, rfl⟩ := List.mem_map.mp hx
  exact gv_row (h.row r hr) hn hW) (by rw [List.length_map]; omega) (by decide)).up (by decide) (by decide)
/-- no row of a game with n places -/
structure BadRow (n : Int) (v : PV) : Prop where
  gv : Gv 700 3 v
  rb : rowB n v = false
/-- no game, though it may be shown -/
structure Bad (v : PV) : Prop where
  sh : Shw v
  gm : gmB v = false
  rp : ∃ s, Rep 4300 v s
  nr : nrf 0 v = true
theorem Gv.shw {W n : Nat} {v : PV} (g : Gv W n v) : Shw v := ⟨okd_pl g.okv.d, fun _ _ => g.okv⟩
theorem Gv.bad {W n : Nat} {v : PV} (g : Gv W n v) (hW : W ≤ 4300) (hn : n ≤ 90) (h : gmB v = false) : Bad v := ⟨g.shw, h, (g.rp.mono hW hn).rep, g.nr⟩
theorem bad_in {xs : List PV} {v : PV} (hv : v ∈ xs) (hb : rowB xs.length v = false) : gmB (.tup xs) = false := by
  show (!xs.isEmpty && xs.all (rowB xs.length)) = false
  have : xs.all (rowB xs.length) = false := List.all_eq_false.mpr ⟨v, hv, by rw [hb]; exact Bool.false_ne_true⟩
  rw [this, Bool.and_false]
theorem bad_snoc {init : List PV} {it : PV} (hi : ∀ x ∈ init, Gv 700 3 x) (hl : init.length ≤ 5) (hb : BadRow ((init.length : Int) + 1) it) : Bad (.tup (init ++ [it])) := by
  have g : Gv 4206 4 (.tup (init ++ [it])) := (gv_tup (k := 6) (W := 700) (n := 3) (fun x hx => by
    rcases List.mem_append.mp hx with hx | hx
    · exact hi x hx
    · rw [List.mem_singleton.mp hx]; exact hb.gv) (by rw [List.length_append, List.length_singleton]; omega) (by decide)).up (by decide) (by decide)
  refine g.bad (by decide) (by decide) (bad_in (v := it) (by simp) ?_)
  have e : ((init ++ [it]).length : Int) = (init.length : Int) + 1 := by rw [List.length_append, List.length_singleton]; omega
  rw [e]
  exact hb.rb
theorem rb4 {a b c d : PV} : rowB n (.tup [a, b, c, d]) = (isW a && isF 0 b && mvB n c && slB n d && (isK a || isNil d)) := rfl
theorem asc_last : ∀ (is : List Int) (a : Int), ascP ((is ++ [a, a]).map PV.int) = false
  | [], a => by
    show (decide (a < a) && true) = false
    simp
  | [x], a => by
    show (decide (x < a) && (decide (a < a) && true)) = false
    simp
  | x :: y :: r, a => by
    have ih := asc_last (y :: r) a
    show (decide (x < y) && ascP (((y :: r) ++ [a, a]).map PV.int)) = false
    rw [ih, Bool.and_false]
theorem bs_row {a b c d : PV} (ha : Gv 170 2 a) (hb : Gv 170 2 b) (hc : Gv 170 2 c) (hd : Gv 170 2 d) (h : (isW a && isF 0 b && mvB n c && slB n d && (isK a || isNil d)) = false) : BadRow n (.tup [a, b, c, d]) := ⟨gv_four ha hb hc hd, h⟩
theorem gv_t1 {a : PV} (ha : Gv 24 1 a) : Gv 170 2 (.tup [a]) := (gv_tup (k := 1) (ev1 ha) (Nat.le_refl _) (by decide)).up (by decide) (by decide)
/-- the rows that are none -/
def oddRows (r : Row) (n : Int) (ms : List Int) (la : Int) : List PV :=
  [.tup [.str "nobody", .int r.mark, .tup (r.mv.map .int), .tup []], .tup [.str (own r.k), .int (-1), .tup (r.mv.map .int), .tup (r.sl.map pairV)], .tup [.str (own r.k), .bl true, .tup (r.mv.map .int), .tup (r.sl.map pairV)], .tup [.str (own r.k), .int r.mark, .tup [], .tup (r.sl.map pairV)], .tup [.str (own r.k), .int r.mark, .tup [.int n], .tup (r.sl.map pairV)],
   .tup [.str (own r.k), .int r.mark, .lst (r.mv.map .int), .tup (r.sl.map pairV)], .tup [.str (own r.k), .int r.mark, .tup ((ms ++ [la, la]).map .int), .tup (r.sl.map pairV)], .tup [.str (own r.k), .int r.mark, .tup [.bl false], .tup (r.sl.map pairV)], .tup [.str (own r.k), .str (toString r.mark), .tup (r.mv.map .int), .tup (r.sl.map pairV)],
   .tup [.str "foe", .int r.mark, .tup (r.mv.map .int), .tup [.tup [.int 0, .int 1]]], .tup [.str "keeper", .int r.mark, .tup (r.mv.map .int), .tup [.tup [.int 0, .int 0]]], .tup [.str "keeper", .int r.mark, .tup (r.mv.map .int), .tup [.tup [.int n, .int 1]]], .tup [.str "keeper", .int r.mark, .tup (r.mv.map .int), .tup [.tup [.int 0, .bl true]]],
   .tup [.str "keeper", .int r.mark, .tup (r.mv.map .int), .tup [.tup [.int 0, .int 1], .tup [.int 0, .int 2]]], .tup [.str "keeper", .int r.mark, .tup (r.mv.map .int), .lst [.tup [.int 0, .int 1]]], .tup [.str "keeper", .int r.mark, .tup (r.mv.map .int), .tup [.tup [.int 0, .int 1, .int 1]]], .lst [.str "keeper", .int r.mark, .tup (r.mv.map .int), .tup []]]
theorem tup2 {a b : PV} (ha : Gv 10 0 a) (hb : Gv 10 0 b) : Gv 24 1 (.tup [a, b]) := (gv_tup (k := 2) (ev2 ha hb) (Nat.le_refl _) (by decide)).up (by decide) (by decide)
theorem bl10 {b : Bool} : Gv 10 0 (.bl b) := gv_bl.up (by decide) (by decide)
theorem gv_nil : Gv 170 2 (.tup []) := (gv_tup (k := 0) (W := 0) (n := 0) (fun x hx => by cases hx) (Nat.le_refl _) (by decide)).up (by decide) (by decide)
theorem isBt_n : isBt 0 (n - 1) (.int n) = false := by
  show (decide (0 ≤ n) && decide (n ≤ n - 1)) = false
  rw [show decide (n ≤ n - 1) = false from decide_eq_false (by omega), Bool.and_false]
theorem odd_rows {ms : List Int} {la : Int} (h : RowOk n W r) (hn : n ≤ 5) (hn0 : 0 < n) (hW : W ≤ 900) (hm : r.mv = ms ++ [la]) : ∀ x ∈ oddRows r n ms la, BadRow n x := by
  have M := row_mv h hn
  have S := row_sl h hn hW
  have K := row_mark h
  have O := gv_own (k := r.k)
  have hml : r.mv.length ≤ 5 := asc_len (a := 0) h.ma fun u hu => by have := h.mb u hu; omega
  have i1 : ∀ i : Int, i.natAbs < 1000 → Gv 24 1 (.int i) := fun i hi => (gv_int hi).up (by decide) (by decide)
  have kw := gv_kw (s := "keeper") (by decide +kernel)
  intro x hx
  unfold oddRows at hx
  simp only [List.mem_cons, List.not_mem_nil, or_false] at hx
  rcases hx with rfl | rfl | rfl | rfl | rfl | rfl | rfl | rfl | rfl | rfl | rfl | rfl | rfl | rfl | rfl | rfl | rfl
  · exact bs_row (gv_kw (by decide +kernel)) K M gv_nil (by
      have e : isW (.str "nobody") = false := by decide +kernel
      rw [e]; rfl)
  · exact bs_row O ((gv_int (by decide)).up (by decide) (by decide)) M S (by
      have e : isF 0 (.int (-1)) = false := by decide
      rw [e, Bool.and_false]; rfl)
  · exact bs_row O (gv_bl.up (by decide) (by decide)) M S (by
      have e : isF 0 (.bl true) = false := rfl
      rw [e, Bool.and_false]; rfl)
  · exact bs_row O K gv_nil S (by
      have e : mvB n (.tup []) = false := rfl
      rw [e, Bool.and_false]; rfl)
  · exact bs_row O K (gv_t1 (i1 n (by omega))) S (by
      have e : mvB n (.tup [.int n]) = false := by
        show (!false && (isBt 0 (n - 1) (.int n) && true) && true) = false
        rw [isBt_n]; rfl
      rw [e, Bool.and_false]; rfl)
  · exact bs_row O K ((gv_intsL (k := 5) (fun i hi => by have := h.mb i hi; omega) hml (by decide)).up (by decide) (by decide)) S (by
      have e : mvB n (.lst (r.mv.map .int)) = false := rfl
      rw [e, Bool.and_false]; rfl)
  · refine bs_row O K ((gv_ints (k := 6) (fun i hi => ?_) ?_ (by decide)).up (by decide) (by decide)) S (by
      have e : mvB n (.tup ((ms ++ [la, la]).map .int)) = false := by
        show (!((ms ++ [la, la]).map PV.int).isEmpty && ((ms ++ [la, la]).map PV.int).all (isBt 0 (n - 1)) && ascP ((ms ++ [la, la]).map PV.int)) = false
        rw [asc_last, Bool.and_false]
      rw [e, Bool.and_false]; rfl)
    · have hi2 : i ∈ r.mv := by
        rw [hm]
        simp only [List.mem_append, List.mem_cons, List.not_mem_nil, or_false] at hi ⊢
        rcases hi with hi | hi | hi
        · exact .inl hi
        · exact .inr hi
        · exact .inr hi
      have := h.mb i hi2
      omega
    · have : r.mv.length = ms.length + 1 := by rw [hm, List.length_append]; rfl
      rw [List.length_append]
      simp only [List.length_cons, List.length_nil]
      omega
  · exact bs_row O K (gv_t1 (gv_bl.up (by decide) (by decide))) S (by
      have e : mvB n (.tup [.bl false]) = false := rfl
      rw [e, Bool.and_false]; rfl)
  · refine bs_row O ⟨(rp_str (low_of (toString r.mark))).mono ?_ (by decide), rfl, rfl⟩ M S (by
      have e : isF 0 (.str (toString r.mark)) = false := rfl
      rw [e, Bool.and_false]; rfl)
    have e := int_text_length_le10 (a := r.mark) (k := 3) (by decide) (by have := h.mr; omega)
    rw [PySem.ofString_length]
    omega
  · exact bs_row (gv_kw (by decide +kernel)) K M (gv_t1 (tup2 (gv_int (by decide)) (gv_int (by decide)))) (by
      have e : (isK (.str "foe") || isNil (.tup [.tup [.int 0, .int 1]])) = false := by decide +kernel
      rw [e, Bool.and_false])
  · exact bs_row kw K M (gv_t1 (tup2 (gv_int (by decide)) (gv_int (by decide)))) (by
      have e : slB n (.tup [.tup [.int 0, .int 0]]) = false := by
        show ((isBt 0 (n - 1) (.int 0) && isF 1 (.int 0)) && true && true) = false
        rw [show isF 1 (.int 0) = false from by decide, Bool.and_false]; rfl
      rw [e, Bool.and_false]; rfl)
  · exact bs_row kw K M (gv_t1 (tup2 (gv_int (by omega)) (gv_int (by decide)))) (by
      have e : slB n (.tup [.tup [.int n, .int 1]]) = false := by
        show ((isBt 0 (n - 1) (.int n) && isF 1 (.int 1)) && true && true) = false
        rw [isBt_n]; rfl
      rw [e, Bool.and_false]; rfl)
  · exact bs_row kw K M (gv_t1 (tup2 (gv_int (by decide)) bl10)) (by
      have e : slB n (.tup [.tup [.int 0, .bl true]]) = false := by
        show ((isBt 0 (n - 1) (.int 0) && isF 1 (.bl true)) && true && true) = false
        rw [show isF 1 (.bl true) = false from rfl, Bool.and_false]; rfl
      rw [e, Bool.and_false]; rfl)
  · refine bs_row kw K M ((gv_tup (k := 2) (ev2 (tup2 (gv_int (by decide)) (gv_int (by decide))) (tup2 (gv_int (by decide)) (gv_int (by decide)))) (Nat.le_refl _) (by decide)).up (by decide) (by decide)) (by
      have e : slB n (.tup [.tup [.int 0, .int 1], .tup [.int 0, .int 2]]) = false := by
        show (([PV.tup [.int 0, .int 1], .tup [.int 0, .int 2]].all (slipB n)) && ascP [.int 0, .int 0]) = false
        rw [show ascP [.int 0, .int 0] = false from by decide, Bool.and_false]
      rw [e, Bool.and_false]; rfl)
  · exact bs_row kw K M ((gv_lst (k := 1) (ev1 (tup2 (gv_int (by decide)) (gv_int (by decide)))) (Nat.le_refl _) (by decide)).up (by decide) (by decide)) (by
      have e : slB n (.lst [.tup [.int 0, .int 1]]) = false := rfl
      rw [e, Bool.and_false]; rfl)
  · refine bs_row kw K M ((gv_tup (k := 1) (ev1 (gv_tup (k := 3) (ev3 (gv_int (by decide)) (gv_int (by decide)) (gv_int (by decide))) (Nat.le_refl _) (by decide))) (Nat.le_refl _) (by decide)).up (by decide) (by decide)) (by
      have e : slB n (.tup [.tup [.int 0, .int 1, .int 1]]) = false := rfl
      rw [e, Bool.and_false]; rfl)
  · exact ⟨(gv_lst (k := 4) (ev4 kw K M gv_nil) (Nat.le_refl _) (by decide)).up (by decide) (by decide), rfl⟩
end
end HS
end
-- text k78pf
section
set_option Elab.async false
set_option linter.all false
set_option maxRecDepth 100000
set_option maxHeartbeats 8000000
namespace HS
open PySem PySem.Spec PyProof.Rows
/-- no tuple of places, though it may be shown -/
structure BadP (n : Int) (v : PV) : Prop where
  sh : K78.Shw v
  ch : chB n v = false
  rp : ∃ s, Rep 4300 v s
  nr : nrf 0 v = true
theorem Gv.badP {W m : Nat} {n : Int} {v : PV} (g : Gv W m v) (hW : W ≤ 4300) (hm : m ≤ 90) (h : chB n v = false) : BadP n v := ⟨g.shw, h, (g.rp.mono hW hm).rep, g.nr⟩
namespace K78
local macro_rules | `(tactic| walk_at "ev") => `(tactic| simp only [wps_seq, wps_put, wps_asg, wps_par, wps_if, wps_ret, wps_expr, wps_nil, wps_for, wp_bin, wp_un, wp_cst, wp_c1, wp_c2, wp_or, wp_and, wp_not, wp_if, wp_tVal, wp_tBl, wp_tAnd, wp_tOr, wp_tNot, wp_truth, wp_chain, wp_all0, wp_all1, wp_tup, wp_lst, wp_call, wp_meth, wp_part, wp_noPart, wp_slice, wp_iSeq, wp_iEnum, wp_eComp, wp_ok, wp_ret, wp_ofO, eVar_0, eVar_s, blQ_bl, gNm_ev, gTp_ev, gAll_nil, gAll_cons, stO_some, wipe_nil, wipe_cons, List.set, wp_addI, wp_subI, wp_negI, wp_intI, wp_intB, wp_max, wp_min, wp_eqC, wp_neC, wp_ltI, wp_gtI, wp_leI, wp_geI, Option.map_some, Option.bind_some])
local macro_rules | `(tactic| walk_at "st") => `(tactic| simp only [wps_put, wps_asg, wps_par, wps_if, wps_ret, wps_expr, wps_nil, wps_for, wp_bin, wp_un, wp_cst, wp_c1, wp_c2, wp_or, wp_and, wp_not, wp_if, wp_tVal, wp_tBl, wp_tAnd, wp_tOr, wp_tNot, wp_truth, wp_chain, wp_all0, wp_all1, wp_tup, wp_lst, wp_call, wp_meth, wp_part, wp_noPart, wp_slice, wp_iSeq, wp_iEnum, wp_eComp, wp_ok, wp_ret, wp_ofO, eVar_0, eVar_s, blQ_bl, gNm_ev, gTp_ev, gAll_nil, gAll_cons, stO_some, wipe_nil, wipe_cons, List.set, wp_addI, wp_subI, wp_negI, wp_intI, wp_intB, wp_max, wp_min, wp_eqC, wp_neC, wp_ltI, wp_gtI, wp_leI, wp_geI, Option.map_some, Option.bind_some])
local macro_rules | `(tactic| walk_at "start") => `(tactic| simp only [startS, List.map, List.length, List.cons_append, List.nil_append, List.replicate])
section
variable {t : List Cell} {Q : PV → Hv → Prop} {h : Hv} {N : Sg → Hv → Prop} {R : PV → Hv → Prop}
theorem wp_mkLn4 {a0 a1 a2 a3 : PV} : wp (mkL false [a0, a1, a2, a3] h) Q = Q (.lst [a0, a1, a2, a3]) h := wp_mkLf (show 4 ≤ sizeLine by decide)
theorem wp_mkLn5 {a0 a1 a2 a3 a4 : PV} : wp (mkL false [a0, a1, a2, a3, a4] h) Q = Q (.lst [a0, a1, a2, a3, a4]) h := wp_mkLf (show 5 ≤ sizeLine by decide)
theorem wp_mkLn9 {a0 a1 a2 a3 a4 a5 a6 a7 a8 : PV} : wp (mkL false [a0, a1, a2, a3, a4, a5, a6, a7, a8] h) Q = Q (.lst [a0, a1, a2, a3, a4, a5, a6, a7, a8]) h := wp_mkLf (show 9 ≤ sizeLine by decide)
theorem wp_mkLn10 {a0 a1 a2 a3 a4 a5 a6 a7 a8 a9 : PV} : wp (mkL false [a0, a1, a2, a3, a4, a5, a6, a7, a8, a9] h) Q = Q (.lst [a0, a1, a2, a3, a4, a5, a6, a7, a8, a9]) h := wp_mkLf (show 10 ≤ sizeLine by decide)
theorem wp_mkLn13 {a0 a1 a2 a3 a4 a5 a6 a7 a8 a9 a10 a11 a12 : PV} : wp (mkL false [a0, a1, a2, a3, a4, a5, a6, a7, a8, a9, a10, a11, a12] h) Q = Q (.lst [a0, a1, a2, a3, a4, a5, a6, a7, a8, a9, a10, a11, a12]) h := wp_mkLf (show 13 ≤ sizeLine by decide)
theorem wp_mkLn16 {a0 a1 a2 a3 a4 a5 a6 a7 a8 a9 a10 a11 a12 a13 a14 a15 : PV} : wp (mkL false [a0, a1, a2, a3, a4, a5, a6, a7, a8, a9, a10, a11, a12, a13, a14, a15] h) Q = Q (.lst [a0, a1, a2, a3, a4, a5, a6, a7, a8, a9, a10, a11, a12, a13, a14, a15]) h := wp_mkLf (show 16 ≤ sizeLine by decide)
theorem wp_mkLn17 {a0 a1 a2 a3 a4 a5 a6 a7 a8 a9 a10 a11 a12 a13 a14 a15 a16 : PV} : wp (mkL false [a0, a1, a2, a3, a4, a5, a6, a7, a8, a9, a10, a11, a12, a13, a14, a15, a16] h) Q = Q (.lst [a0, a1, a2, a3, a4, a5, a6, a7, a8, a9, a10, a11, a12, a13, a14, a15, a16]) h := wp_mkLf (show 17 ≤ sizeLine by decide)
theorem wp_mkKf : wp (mkK false [] h) Q = Q (.dK []) h := by
  unfold mkK
  rw [if_pos (show ([] : List (Key × PV)).length ≤ sizeLine from Nat.zero_le _)]
  rfl
theorem wp_strI {i : Int} (c : i.natAbs < 1000) : wp (bStr (.int i) h) Q = Q (.str (toString i)) h := by
  show wp (if i.natAbs.log2 < 1920 then Res.ok (PV.str (toString i)) h else .stuck) Q = _
  have e : i.natAbs.log2 < 1920 := by
    by_cases z : i.natAbs = 0
    · rw [z]; decide
    · exact Nat.lt_trans ((Nat.log2_lt z).mpr (Nat.lt_trans c (by decide : 1000 < 2 ^ 10))) (by decide)
  rw [if_pos e]
  rfl
theorem ix_last {xs : List PV} {v : PV} : ixB h (.tup (xs ++ [v])) (.int (-1)) = some v := L2.atI_last xs v
theorem cut_last {xs : List PV} {v : PV} : cutP (xs ++ [v]) (some (-1)) none = [v] := by
  unfold cutP
  have e1 : HT.sIx (xs ++ [v]).length 0 (some (-1)) = xs.length := by
    show (if (-1 : Int) < 0 then ((-1 : Int) + ((xs ++ [v]).length : Int)).toNat else min (-1 : Int).toNat (xs ++ [v]).length) = _
    rw [if_pos (by decide), List.length_append, List.length_singleton]
    omega
  have e2 : HT.sIx (xs ++ [v]).length (xs ++ [v]).length none = (xs ++ [v]).length := rfl
  rw [e1, e2, List.drop_left, List.length_append, List.length_singleton]
  have e3 : xs.length + 1 - xs.length = 1 := by omega
  rw [e3]
  rfl
theorem cut_init {xs : List PV} {v : PV} : cutP (xs ++ [v]) none (some (-1)) = xs := by
  unfold cutP
  have e1 : HT.sIx (xs ++ [v]).length 0 none = 0 := rfl
  have e2 : HT.sIx (xs ++ [v]).length (xs ++ [v]).length (some (-1)) = xs.length := by
    show (if (-1 : Int) < 0 then ((-1 : Int) + ((xs ++ [v]).length : Int)).toNat else min (-1 : Int).toNat (xs ++ [v]).length) = _
    rw [if_pos (by decide), List.length_append, List.length_singleton]
    omega
  rw [e1, e2, List.drop_zero, Nat.sub_zero, List.take_left]
theorem gTp_row {r : Row} {gs : List TGt} {σ : Sg} : gTp gs r.v σ = gAll gs [.str (own r.k), .int r.mark, .tup (r.mv.map .int), .tup (r.sl.map pairV)] σ := rfl
theorem wp_sliceT {xs : List PV} {lo hi : Option Int} : wp (sSlice false (.tup xs) lo hi h) Q = Q (.tup (cutP xs lo hi)) h := rfl
/-- a value that is no game -/
theorem wp_no_game {W : Int} {g : List Row} (q : D t h) (ht : Cl t) (hg : GameOk W g) (hn : (g.length : Int) ≤ 5) (hW : W ≤ 900) (hq : ∀ v h', Bad v → D t h' → Q v h') : wp (c__law_no_game [.ref 1, gameV g] h) Q := by
  obtain ⟨init, r, rfl⟩ := snoc_of hg.ne
  have hr := hg.row r (by simp)
  have hlen : ((init ++ [r]).length : Int) = (init.length : Int) + 1 := by rw [List.length_append, List.length_singleton]; omega
  rw [hlen] at hr hn
  obtain ⟨ms, la, hm⟩ := snoc_of hr.ne
  have eg : gameV (init ++ [r]) = .tup (init.map Row.v ++ [r.v]) := by
    unfold gameV
    rw [List.map_append]
    rfl
  have hgv : ∀ x ∈ (init ++ [r]).map Row.v, Gv 700 3 x := fun x hx => by
    obtain ⟨r2, hr2, rfl⟩ := List.mem_map.mp hx
    have := hg.row r2 hr2
    rw [hlen] at this
    exact gv_row this hn hW
  have hgi : ∀ x ∈ init.map Row.v, Gv 700 3 x := fun x hx => hgv x (by rw [List.map_append]; exact List.mem_append_left _ hx)
  have ex : ((init ++ [r]).map Row.v).length = init.length + 1 := by rw [List.length_map, List.length_append, List.length_singleton]
  have bad10 : ∀ x ∈ [PV.non, .tup [], .int 0, .str "", .dK [], .lst ((init ++ [r]).map Row.v), r.v, .tup ((init ++ [r]).map Row.v ++ [.non]), .tup ((init ++ [r]).map Row.v ++ [.tup [.str "keeper", .int 0, .tup [.int 0]]]), .tup ((init ++ [r]).map Row.v ++ [.tup [.str "keeper", .int 0, .tup [.int 0], .tup [], .tup []]])], Bad x := by
    intro x hx
    have kw := gv_kw (s := "keeper") (by decide +kernel)
    have z0 : Gv 170 2 (.int 0) := (gv_int (by decide)).up (by decide) (by decide)
    have t0 : Gv 170 2 (.tup [.int 0]) := gv_t1 ((gv_int (by decide)).up (by decide) (by decide))
    simp only [List.mem_cons, List.not_mem_nil, or_false] at hx
    rcases hx with rfl | rfl | rfl | rfl | rfl | rfl | rfl | rfl | rfl | rfl
    · exact gv_non.bad (by decide) (by decide) rfl
    · exact gv_nil.bad (by decide) (by decide) rfl
    · exact z0.bad (by decide) (by decide) rfl
    · exact (gv_kw (s := "") (by decide +kernel)).bad (by decide) (by decide) rfl
    · exact ⟨⟨rfl, fun xs e => nomatch e⟩, rfl, ⟨_, rep_dict⟩, rfl⟩
    · exact (gv_lst (k := 6) hgv (by omega) (by decide)).bad (by decide) (by decide) rfl
    · refine (gv_row hr hn hW).bad (by decide) (by decide) (bad_in (v := .str (own r.k)) (List.mem_cons_self ..) rfl)
    · exact bad_snoc hgv (by omega) ⟨gv_non.up (by decide) (by decide), rfl⟩
    · exact bad_snoc hgv (by omega) ⟨(gv_tup (k := 3) (ev3 kw z0 t0) (Nat.le_refl _) (by decide)).up (by decide) (by decide), rfl⟩
    · refine bad_snoc hgv (by omega) ⟨(gv_tup (k := 5) (xs := [.str "keeper", .int 0, .tup [.int 0], .tup [], .tup []]) (W := 24) (n := 1) (fun x hx => ?_) (Nat.le_refl _) (by decide)).up (by decide) (by decide), rfl⟩
      simp only [List.mem_cons, List.not_mem_nil, or_false] at hx
      have nl : Gv 24 1 (.tup []) := (gv_tup (k := 0) (W := 0) (n := 0) (fun x hx => by cases hx) (Nat.le_refl _) (by decide)).up (by decide) (by decide)
      rcases hx with rfl | rfl | rfl | rfl | rfl
      · exact (gv_str (s := "keeper") (by decide +kernel)).up (by decide) (by decide)
      · exact (gv_int (by decide)).up (by decide) (by decide)
      · exact (gv_ints (k := 1) (is := [0]) (by simp) (by decide) (by decide)).up (by decide) (by decide)
      · exact nl
      · exact nl
  have odds := odd_rows (r := r) (ms := ms) (la := la) hr hn (by omega) hW hm
  have bad17 : ∀ x ∈ (oddRows r ((init.length : Int) + 1) ms la).map (fun it => PV.tup (init.map Row.v ++ [it])), Bad x := fun x hx => by
    obtain ⟨it, hit, rfl⟩ := List.mem_map.mp hx
    refine bad_snoc hgi (by rw [List.length_map]; omega) ?_
    rw [List.length_map]
    exact odds it hit
  refine wp_runF ?_
  unfold m__law_no_game
  walk_at "start"
  rw [wps_seq]
  walk_at "st"
  rw [eg, wp_ix ix_last, gTp_row]
  walk_at "st"
  rw [wps_seq]
  walk_at "st"
  rw [wp_len (n := init.length + 1) (by show some (List.length _) = _; rw [List.length_append, List.length_map, List.length_singleton])]
  have en : natV (init.length + 1) = .int ((init.length : Int) + 1) := rfl
  rw [en]
  try walk_at "st"
  rw [wps_seq]
  walk_at "st"
  have ext : init.map Row.v ++ [r.v] = (init ++ [r]).map Row.v := by rw [List.map_append]; rfl
  have exl : (init.map Row.v ++ [r.v]).length = init.length + 1 := by rw [List.length_append, List.length_map, List.length_singleton]
  have mk1 : ∀ (x : PV) {Q : PV → Hv → Prop} {h : Hv}, wp (mkT (init.map Row.v ++ [r.v] ++ [x]) h) Q = Q (.tup (init.map Row.v ++ [r.v] ++ [x])) h := fun x {Q h} => wp_mkT (by rw [List.length_append, exl]; show _ + 1 ≤ 2 ^ 24; omega)
  rw [wp_mkT0, wp_mkKf, wp_listS (xs := init.map Row.v ++ [r.v]) rfl (by rw [exl]; show _ ≤ 2 ^ 24; omega), wp_ix ix_last, wp_mkT1, wp_addT, mk1, wp_mkT1, wp_mkT3, wp_mkT1, wp_addT, mk1, wp_mkT1, wp_mkT0, wp_mkT0, wp_mkT5, wp_mkT1, wp_addT, mk1, wp_mkLn10]
  try walk_at "st"
  rw [wps_seq]
  walk_at "st"
  rw [wp_mkT0, wp_mkT4, wp_mkT4, wp_mkT4, wp_mkT0, wp_mkT4, wp_mkT1, wp_mkT4, wp_mkLn5]
  try walk_at "st"
  rw [wps_seq]
  walk_at "st"
  have hml : r.mv.length ≤ 5 := asc_len (a := 0) hr.ma fun u hu => by have := hr.mb u hu; omega
  have ems : r.mv.map PV.int = ms.map .int ++ [.int la] := by rw [hm, List.map_append]; rfl
  have emm : r.mv.map PV.int ++ [.int la] = (ms ++ [la, la]).map .int := by rw [hm, ← List.map_singleton, ← List.map_append, List.append_assoc]; rfl
  have ecut : cutP (r.mv.map PV.int) (some (-1)) none = [.int la] := by rw [ems, cut_last]
  rw [wp_listS (xs := r.mv.map .int) rfl (by rw [List.length_map]; show _ ≤ 2 ^ 24; omega), wp_mkT4, wp_sliceT, ecut, wp_addT, emm, wp_mkT (by rw [← emm, List.length_append, List.length_map]; show _ + 1 ≤ 2 ^ 24; omega), wp_mkT4, wp_mkT1, wp_mkT4, wp_strI (by have := hr.mr; omega), wp_mkT4, wp_mkLn4]
  try walk_at "st"
  rw [wp_addL]
  simp only [List.cons_append, List.nil_append]
  rw [wp_mkLn9]
  try walk_at "st"
  rw [wps_seq]
  walk_at "st"
  rw [wp_mkT2, wp_mkT1, wp_mkT4, wp_mkT2, wp_mkT1, wp_mkT4, wp_mkT2, wp_mkT1, wp_mkT4, wp_mkT2, wp_mkT1, wp_mkT4, wp_mkLn4, wp_addL]
  simp only [List.cons_append, List.nil_append]
  rw [wp_mkLn13]
  try walk_at "st"
  rw [wps_seq]
  walk_at "st"
  rw [wp_mkT2, wp_mkT2, wp_mkT2, wp_mkT4, wp_mkT2, wp_mkL1, wp_mkT4, wp_mkT3, wp_mkT1, wp_mkT4, wp_mkT0, wp_mkL4, wp_mkLn4, wp_addL]
  simp only [List.cons_append, List.nil_append]
  rw [wp_mkLn17]
  try walk_at "st"
  rw [wps_seq]
  walk_at "st"
  rw [seqS_lst]
  walk_at "st"
  have eo : [PV.tup [.str "nobody", .int r.mark, .tup (r.mv.map .int), .tup []], .tup [.str (own r.k), .int (-1), .tup (r.mv.map .int), .tup (r.sl.map pairV)], .tup [.str (own r.k), .bl true, .tup (r.mv.map .int), .tup (r.sl.map pairV)], .tup [.str (own r.k), .int r.mark, .tup [], .tup (r.sl.map pairV)], .tup [.str (own r.k), .int r.mark, .tup [.int ((init.length : Int) + 1)], .tup (r.sl.map pairV)],
   .tup [.str (own r.k), .int r.mark, .lst (r.mv.map .int), .tup (r.sl.map pairV)], .tup [.str (own r.k), .int r.mark, .tup ((ms ++ [la, la]).map .int), .tup (r.sl.map pairV)], .tup [.str (own r.k), .int r.mark, .tup [.bl false], .tup (r.sl.map pairV)], .tup [.str (own r.k), .str (toString r.mark), .tup (r.mv.map .int), .tup (r.sl.map pairV)],
   .tup [.str "foe", .int r.mark, .tup (r.mv.map .int), .tup [.tup [.int 0, .int 1]]], .tup [.str "keeper", .int r.mark, .tup (r.mv.map .int), .tup [.tup [.int 0, .int 0]]], .tup [.str "keeper", .int r.mark, .tup (r.mv.map .int), .tup [.tup [.int ((init.length : Int) + 1), .int 1]]], .tup [.str "keeper", .int r.mark, .tup (r.mv.map .int), .tup [.tup [.int 0, .bl true]]],
   .tup [.str "keeper", .int r.mark, .tup (r.mv.map .int), .tup [.tup [.int 0, .int 1], .tup [.int 0, .int 2]]], .tup [.str "keeper", .int r.mark, .tup (r.mv.map .int), .lst [.tup [.int 0, .int 1]]], .tup [.str "keeper", .int r.mark, .tup (r.mv.map .int), .tup [.tup [.int 0, .int 1, .int 1]]], .lst [.str "keeper", .int r.mark, .tup (r.mv.map .int), .tup []]] = oddRows r ((init.length : Int) + 1) ms la := rfl
  rw [eo]
  rw [comp_map (f := fun it => PV.tup (init.map Row.v ++ [it])) srcOk_nil _ fun x hx => ?_]
  · walk_at "st"
    have e17 : (oddRows r ((init.length : Int) + 1) ms la).length = 17 := rfl
    rw [wp_mkLf (by rw [List.length_map, e17]; decide), wp_addL, wp_mkLf (by rw [List.length_append, List.length_map, e17]; show 10 + 17 ≤ sizeLine; decide)]
    rw [← ext] at bad10
    refine pick_l q ht (by simp) (by rw [List.length_append, List.length_map, e17]; show 10 + 17 < 1000000; decide) (fun x hx => ?_) fun x h' hx q' => ?_
    · rcases List.mem_append.mp hx with hx | hx
      · exact (bad10 x hx).nr
      · exact (bad17 x hx).nr
    · have hb : Bad x := by
        rcases List.mem_append.mp hx with hx | hx
        · exact bad10 x hx
        · exact bad17 x hx
      exact wp_leave q ht (Dnil q') (nrf_up (Nat.zero_le _) x hb.nr) fun h2 q2 => hq x h2 hb q2
  · refine ⟨_, rfl, wp.to_eq ?_⟩
    walk_at "st"
    rw [wp_sliceT, cut_init, wp_mkT1, wp_addT, wp_mkT (by rw [List.length_append, List.length_map, List.length_singleton]; show _ ≤ 2 ^ 24; omega)]
    exact ⟨rfl, rfl⟩
end
end K78
end HS
end
-- text k78pg
section
set_option Elab.async false
set_option linter.all false
set_option maxRecDepth 100000
set_option maxHeartbeats 8000000
namespace HS
open PySem PySem.Spec PyProof.Rows
open K78 (nrfs_each Shw)
/-- values that are no tuples of places -/
def oddPl (n : Int) : List PV := [.non, .int 0, .lst [.int 0], .tup [.int n], .tup [.int (-1)], .tup [.int 0, .int 0], .tup [.bl true], .tup [.bl false], .tup [.str "0"], .tup [.int 0, .int n], .tup [.tup [.int 0]], .dK [], .str "0", .tup [.non], .lst (rgP 0 n), .int (10 ^ 39)]
def oddP2 (n : Int) : List PV := [.tup [.int 1, .int 0], .tup (rgP 0 n).reverse, .tup [.int 0, .int 1, .int 0]]
theorem rgP_map (n : Int) : rgP 0 n = ((List.range n.toNat).map fun i : Nat => (i : Int)).map PV.int := by
  unfold rgP
  rw [List.map_map]
  simp
theorem odd_pl {n : Int} (h0 : 0 < n) (h1 : n ≤ 5) : ∀ x ∈ oddPl n, BadP n x := by
  intro x hx
  have i1 : ∀ i : Int, i.natAbs < 1000 → Gv 24 1 (.int i) := fun i hi => (gv_int hi).up (by decide) (by decide)
  have bn : isBt 0 (n - 1) (.int n) = false := isBt_n
  have t1 : ∀ {a : PV}, isBt 0 (n - 1) a = false → chB n (.tup [a]) = false := fun {a} e => by
    show ([a].all (isBt 0 (n - 1)) && ascP [a]) = false
    rw [List.all_cons, e]
    rfl
  unfold oddPl at hx
  simp only [List.mem_cons, List.not_mem_nil, or_false] at hx
  rcases hx with rfl | rfl | rfl | rfl | rfl | rfl | rfl | rfl | rfl | rfl | rfl | rfl | rfl | rfl | rfl | rfl
  · exact gv_non.badP (by decide) (by decide) rfl
  · exact (gv_int (by decide)).badP (by decide) (by decide) rfl
  · exact (gv_intsL (k := 1) (is := [0]) (by simp) (by decide) (by decide)).badP (by decide) (by decide) rfl
  · exact (gv_t1 (i1 n (by omega))).badP (by decide) (by decide) (t1 bn)
  · exact (gv_t1 (i1 (-1) (by decide))).badP (by decide) (by decide) (t1 (show (decide ((0 : Int) ≤ -1) && decide ((-1 : Int) ≤ n - 1)) = false from rfl))
  · refine (gv_ints (k := 2) (is := [0, 0]) (by simp) (by decide) (by decide)).badP (by decide) (by decide) ?_
    show (_ && ascP [.int 0, .int 0]) = false
    rw [show ascP [.int 0, .int 0] = false from by decide, Bool.and_false]
  · exact (gv_t1 (gv_bl.up (by decide) (by decide))).badP (by decide) (by decide) (t1 rfl)
  · exact (gv_t1 (gv_bl.up (by decide) (by decide))).badP (by decide) (by decide) (t1 rfl)
  · exact (gv_t1 ((gv_str (s := "0") (by decide +kernel)).up (by decide) (by decide))).badP (by decide) (by decide) (t1 rfl)
  · refine (gv_ints (k := 2) (is := [0, n]) (fun i hi => by simp at hi; omega) (by simp) (by decide)).badP (by decide) (by decide) ?_
    show ((isBt 0 (n - 1) (.int 0) && (isBt 0 (n - 1) (.int n) && true)) && _) = false
    rw [bn, Bool.false_and, Bool.and_false, Bool.false_and]
  · exact (gv_t1 ((gv_ints (k := 1) (is := [0]) (by simp) (by decide) (by decide)).up (by decide) (by decide))).badP (by decide) (by decide) (t1 rfl)
  · exact ⟨⟨rfl, fun xs e => (nomatch e)⟩, rfl, ⟨_, rep_dict⟩, rfl⟩
  · exact (gv_str (s := "0") (by decide +kernel)).badP (by decide) (by decide) rfl
  · exact (gv_t1 (gv_non.up (by decide) (by decide))).badP (by decide) (by decide) (t1 rfl)
  · rw [rgP_map]
    exact (gv_intsL (k := 5) (fun i hi => by have := K78.range_mem.mp hi; omega) (by rw [List.length_map, List.length_range]; omega) (by decide)).badP (by decide) (by decide) rfl
  · have g : Gv 134 0 (.int (10 ^ 39)) := ⟨rp_int (k := 40) (by decide) (by decide) (by decide) (by decide), rfl, rfl⟩
    exact g.badP (by decide) (by decide) rfl
theorem odd_p2 {n : Int} (h0 : 1 < n) (h1 : n ≤ 5) : ∀ x ∈ oddP2 n, BadP n x := by
  intro x hx
  have no : ∀ {xs : List PV}, ascP xs = false → chB n (.tup xs) = false := fun {xs} e => by
    show (xs.all (isBt 0 (n - 1)) && ascP xs) = false
    rw [e, Bool.and_false]
  unfold oddP2 at hx
  simp only [List.mem_cons, List.not_mem_nil, or_false] at hx
  rcases hx with rfl | rfl | rfl
  · exact (gv_ints (k := 2) (is := [1, 0]) (by simp) (by decide) (by decide)).badP (by decide) (by decide) (no (by decide))
  · rw [rgP_map, ← List.map_reverse]
    refine (gv_ints (k := 5) (fun i hi => by have := K78.range_mem.mp (List.mem_reverse.mp hi); omega) (by rw [List.length_reverse, List.length_map, List.length_range]; omega) (by decide)).badP (by decide) (by decide) (no ?_)
    have hn : n = 2 ∨ n = 3 ∨ n = 4 ∨ n = 5 := by omega
    rcases hn with rfl | rfl | rfl | rfl <;> decide +kernel
  · exact (gv_ints (k := 3) (is := [0, 1, 0]) (by simp) (by decide) (by decide)).badP (by decide) (by decide) (no (by decide))
/-- a game is a game -/
theorem asc_true : ∀ {is : List Int}, is.Pairwise (· < ·) → ascP (is.map PV.int) = true
  | [], _ => rfl
  | [_], _ => rfl
  | a :: b :: r, h => by
    have h' := List.pairwise_cons.mp h
    show (decide (a < b) && ascP ((b :: r).map PV.int)) = true
    rw [asc_true h'.2, decide_eq_true (h'.1 b (List.mem_cons_self ..))]
    rfl
theorem row_true {n W : Int} {r : Row} (h : RowOk n W r) : rowB n r.v = true := by
  have e1 : isW (.str (own r.k)) = true := by cases r.k <;> decide +kernel
  have e2 : isF 0 (.int r.mark) = true := decide_eq_true h.mr.1
  have e3 : mvB n (.tup (r.mv.map .int)) = true := by
    show (!(r.mv.map PV.int).isEmpty && (r.mv.map PV.int).all (isBt 0 (n - 1)) && ascP (r.mv.map PV.int)) = true
    rw [asc_true h.ma]
    have a : (r.mv.map PV.int).all (isBt 0 (n - 1)) = true := List.all_eq_true.mpr fun x hx => by
      obtain ⟨u, hu, rfl⟩ := List.mem_map.mp hx
      have := h.mb u hu
      show (decide (0 ≤ u) && decide (u ≤ n - 1)) = true
      rw [decide_eq_true this.1, decide_eq_true (by omega)]
      rfl
    have b : (r.mv.map PV.int).isEmpty = false := by
      cases q : r.mv with
      | nil => exact absurd q h.ne
      | cons _ _ => rfl
    rw [a, b]
    rfl
  have e4 : slB n (.tup (r.sl.map pairV)) = true := by
    show ((r.sl.map pairV).all (slipB n) && ascP ((r.sl.map pairV).map fstP)) = true
    have a : (r.sl.map pairV).all (slipB n) = true := List.all_eq_true.mpr fun x hx => by
      obtain ⟨p, hp, rfl⟩ := List.mem_map.mp hx
      have := h.sb p hp
      show ((decide (0 ≤ p.1) && decide (p.1 ≤ n - 1)) && decide (1 ≤ p.2)) = true
      rw [decide_eq_true this.1, decide_eq_true (by omega), decide_eq_true this.2.2.1]
      rfl
    have b : (r.sl.map pairV).map fstP = (r.sl.map (·.1)).map PV.int := by
      rw [List.map_map, List.map_map]
      rfl
    rw [a, b, asc_true h.sa]
    rfl
  have e5 : (isK (.str (own r.k)) || isNil (.tup (r.sl.map pairV))) = true := by
    cases q : r.k with
    | true => rfl
    | false =>
      rw [h.foe q]
      exact Bool.or_true _
  show (isW (.str (own r.k)) && isF 0 (.int r.mark) && mvB n (.tup (r.mv.map .int)) && slB n (.tup (r.sl.map pairV)) && (isK (.str (own r.k)) || isNil (.tup (r.sl.map pairV)))) = true
  rw [e1, e2, e3, e4, e5]
  rfl
theorem game_true {W : Int} {g : List Row} (h : GameOk W g) : gmB (gameV g) = true := by
  show (!(g.map Row.v).isEmpty && (g.map Row.v).all (rowB (g.map Row.v).length)) = true
  have b : (g.map Row.v).isEmpty = false := by
    cases q : g with
    | nil => exact absurd q h.ne
    | cons _ _ => rfl
  rw [b, List.length_map]
  show (g.map Row.v).all (rowB g.length) = true
  exact List.all_eq_true.mpr fun x hx => by
    obtain ⟨r, hr, rfl⟩ := List.mem_map.mp hx
    exact row_true (h.row r hr)
theorem places_true {n : Int} {is : List Int} (ha : is.Pairwise (· < ·)) (hb : ∀ u ∈ is, 0 ≤ u ∧ u < n) : chB n (.tup (is.map .int)) = true := by
  show ((is.map PV.int).all (isBt 0 (n - 1)) && ascP (is.map PV.int)) = true
  have a : (is.map PV.int).all (isBt 0 (n - 1)) = true := List.all_eq_true.mpr fun x hx => by
    obtain ⟨u, hu, rfl⟩ := List.mem_map.mp hx
    have := hb u hu
    show (decide (0 ≤ u) && decide (u ≤ n - 1)) = true
    rw [decide_eq_true this.1, decide_eq_true (by omega)]
    rfl
  rw [a, asc_true ha]
  rfl
/-- what is due: data, and what weighs it -/
structure Due (v : PV) : Prop where
  rp : Rp 8 190000 3 v
  nr : nrf 0 v = true
  ok : okv true true v = true
theorem Dw.run {W n : Nat} {v : PV} {d : PyData} {h : Hv} (e : reprD h v = some d) (w : Dw 8 W n d) (hW : W ≤ 1600000) (hn : n ≤ 100) : bRepr v h = .ok (.str d.shown) h := by
  have hl := w.len (by decide)
  unfold bRepr
  rw [e]
  simp only
  rw [if_pos ⟨w.s, by rw [sizeLine_eq]; omega, by have := w.d; omega⟩]
theorem due_ret : Due (.tup [.str "returned"]) := ⟨(rp_tup (k := 1) (ev1 ((rp_str (low_of "returned")).mono (W' := 20) (n' := 0) (by decide +kernel) (Nat.le_refl _))) (Nat.le_refl _)).mono (by decide) (by decide), rfl, rfl⟩
theorem due_exc {b : Bool} {s : Str} {v : PV} (r : Rep 4300 v s) : Due (.tup [.str "raised", .lst [.bl b, .bl (!b)], .str s]) := by
  refine ⟨?_, rfl, rfl⟩
  have hl := r.len
  have h1 : Rp 8 190000 2 (.str s) := (rp_str r.low).mono (by omega) (by decide)
  have ws : ∃ d, toD (.tup [.str "raised", .lst [.bl b, .bl (!b)], .str s]) = some d ∧ Dw 8 190000 3 d := by
    refine ⟨.tuple [.str "raised", .list [.bool b, .bool (!b)], .str s], rfl, ?_, rfl, ?_, ?_⟩
    · have e : (PyData.str s).leavesShort 8 = true := by
        unfold PyData.leavesShort
        exact List.all_eq_true.mpr fun c hc => decide_eq_true (r.low c hc)
      have e0 : (PyData.str "raised").leavesShort 8 = true := by
        unfold PyData.leavesShort
        exact List.all_eq_true.mpr fun c hc => decide_eq_true (low_of "raised" c hc)
      simp only [PyData.leavesShort, PyData.leavesShortAll, Bool.and_true, Bool.true_and] at e e0 ⊢
      rw [e, e0]
      rfl
    · have e1 : (PyData.str "raised").weight ≤ 20 := by decide +kernel
      have e2 : (PyData.str s).weight = s.length := rfl
      simp only [PyData.weight, PyData.weightAll] at e1 ⊢
      have e3 : s.cps.size = s.length := rfl
      omega
    · simp [PyData.depth, PyData.depthAll]
  exact ws
end HS
end
-- text k78ph
section
set_option Elab.async false
set_option linter.all false
set_option maxRecDepth 100000
set_option maxHeartbeats 8000000
namespace HS
open PySem PySem.Spec PyProof.Rows
namespace K78
local macro_rules | `(tactic| walk_at "ev") => `(tactic| simp only [wps_seq, wps_put, wps_asg, wps_par, wps_if, wps_ret, wps_expr, wps_nil, wps_for, wp_bin, wp_un, wp_cst, wp_c1, wp_c2, wp_or, wp_and, wp_not, wp_if, wp_tVal, wp_tBl, wp_tAnd, wp_tOr, wp_tNot, wp_truth, wp_chain, wp_all0, wp_all1, wp_tup, wp_lst, wp_call, wp_meth, wp_part, wp_noPart, wp_slice, wp_iSeq, wp_iEnum, wp_eComp, wp_ok, wp_ret, wp_ofO, eVar_0, eVar_s, blQ_bl, gNm_ev, gTp_ev, gAll_nil, gAll_cons, stO_some, wipe_nil, wipe_cons, List.set, wp_addI, wp_subI, wp_negI, wp_intI, wp_intB, wp_max, wp_min, wp_eqC, wp_neC, wp_ltI, wp_gtI, wp_leI, wp_geI, Option.map_some, Option.bind_some])
local macro_rules | `(tactic| walk_at "st") => `(tactic| simp only [wps_put, wps_asg, wps_par, wps_if, wps_ret, wps_expr, wps_nil, wps_for, wp_bin, wp_un, wp_cst, wp_c1, wp_c2, wp_or, wp_and, wp_not, wp_if, wp_tVal, wp_tBl, wp_tAnd, wp_tOr, wp_tNot, wp_truth, wp_chain, wp_all0, wp_all1, wp_tup, wp_lst, wp_call, wp_meth, wp_part, wp_noPart, wp_slice, wp_iSeq, wp_iEnum, wp_eComp, wp_ok, wp_ret, wp_ofO, eVar_0, eVar_s, blQ_bl, gNm_ev, gTp_ev, gAll_nil, gAll_cons, stO_some, wipe_nil, wipe_cons, List.set, wp_addI, wp_subI, wp_negI, wp_intI, wp_intB, wp_max, wp_min, wp_eqC, wp_neC, wp_ltI, wp_gtI, wp_leI, wp_geI, Option.map_some, Option.bind_some])
local macro_rules | `(tactic| walk_at "start") => `(tactic| simp only [startS, List.map, List.length, List.cons_append, List.nil_append, List.replicate])
section
variable {t : List Cell} {Q : PV → Hv → Prop} {h : Hv} {N : Sg → Hv → Prop} {R : PV → Hv → Prop}
theorem wp_mkLm16 {a0 a1 a2 a3 a4 a5 a6 a7 a8 a9 a10 a11 a12 a13 a14 a15 : PV} : wp (mkL false [a0, a1, a2, a3, a4, a5, a6, a7, a8, a9, a10, a11, a12, a13, a14, a15] h) Q = Q (.lst [a0, a1, a2, a3, a4, a5, a6, a7, a8, a9, a10, a11, a12, a13, a14, a15]) h := wp_mkLf (show 16 ≤ sizeLine by decide)
theorem wp_mkLm19 {a0 a1 a2 a3 a4 a5 a6 a7 a8 a9 a10 a11 a12 a13 a14 a15 a16 a17 a18 : PV} : wp (mkL false [a0, a1, a2, a3, a4, a5, a6, a7, a8, a9, a10, a11, a12, a13, a14, a15, a16, a17, a18] h) Q = Q (.lst [a0, a1, a2, a3, a4, a5, a6, a7, a8, a9, a10, a11, a12, a13, a14, a15, a16, a17, a18]) h := wp_mkLf (show 19 ≤ sizeLine by decide)
/-- cells that name nothing -/
structure Tc (t : List Cell) : Prop where
  c : ∀ c ∈ t, nrfC 0 c = true
  o : ∀ c ∈ t, okC true true c = true
theorem Tc.cl (h : Tc t) : Cl t := List.all_eq_true.mpr fun c hc => nrfC_up (Nat.zero_le _) c (h.c c hc)
theorem Tc.ok (h : Tc t) : Ok2 t := List.all_eq_true.mpr fun c hc => h.o c hc
theorem Tc.snoc (h : Tc t) {c : Cell} (h1 : nrfC 0 c = true) (h2 : okC true true c = true) : Tc (t ++ [c]) := ⟨fun x hx => by
  rcases List.mem_append.mp hx with hx | hx
  · exact h.c x hx
  · rw [List.mem_singleton.mp hx]; exact h1, fun x hx => by
  rcases List.mem_append.mp hx with hx | hx
  · exact h.o x hx
  · rw [List.mem_singleton.mp hx]; exact h2⟩
/-- the four calls tell what is due -/
theorem four_told {g : List Row} {W : Int} {a some due : PV} (hg : GameOk W g) (hgl : g.length < 1000)
    (cs : (∃ is : List Int, a = gameV g ∧ some = .tup (is.map .int) ∧ Shw (gameV g) ∧ Shw (.tup (is.map .int)) ∧ chB g.length (.tup (is.map .int)) = true ∧ due = .tup [.str "returned"]) ∨ (a = gameV g ∧ Shw (gameV g) ∧ Shw some ∧ chB g.length some = false ∧ ∃ s, Rep 4300 some s ∧ due = .tup [.str "raised", .lst [.bl false, .bl true], .str s]) ∨
      (Shw a ∧ Shw some ∧ gmB a = false ∧ ∃ s, Rep 4300 a s ∧ due = .tup [.str "raised", .lst [.bl true, .bl false], .str s])) :
    ∀ (t : List Cell) (h : Hv), D t h → Tc t → (∀ {Q : PV → Hv → Prop}, (∀ h', D t h' → Q due h') → wp (t__law_tried (c_safe_game [a, some]) h) Q ∧ wp (t__law_tried (c_reach_game [a, some]) h) Q ∧ wp (t__law_tried (c_again_game [a, some]) h) Q ∧ wp (t__law_tried (c_seldom_game [a, some]) h) Q) := by
  intro t h q tc Q hq
  rcases cs with ⟨is, rfl, rfl, s1, s2, hc, rfl⟩ | ⟨rfl, s1, s2, hc, s, hr, rfl⟩ | ⟨s1, s2, hgm, s, hr, rfl⟩
  · have f := four_ok (Q := fun _ h' => D t h') q tc.cl hgl s1 s2 (game_true hg) hc fun g' h' q' => q'
    exact ⟨tried_ok q tc.cl tc.ok f.1 hq, tried_ok q tc.cl tc.ok f.2.1 hq, tried_ok q tc.cl tc.ok f.2.2.1 hq, tried_ok q tc.cl tc.ok f.2.2.2 hq⟩
  · have e : c_need_places [gameV g, some] h = .exc (.exc "BadPlaces" [("thing", some)]) h := by
      rw [need_places_eq s1 s2, game_true hg, if_pos rfl]
      show (if chB ((g.map Row.v).length) some = true then _ else _) = _
      rw [List.length_map, hc]
      rfl
    have f := four_no e
    have w : ∀ m : M PV, m h = .exc (.exc "BadPlaces" [("thing", some)]) h → wp (t__law_tried m h) Q := fun m hm => by
      rw [tried_exc (b := false) q tc.ok hm cls_places hr (by decide)]
      exact hq h q
    exact ⟨w _ f.1, w _ f.2.1, w _ f.2.2.1, w _ f.2.2.2⟩
  · have e : c_need_places [a, some] h = .exc (.exc "BadGame" [("thing", a)]) h := by
      rw [need_places_eq s1 s2, hgm]
      rfl
    have f := four_no e
    have w : ∀ m : M PV, m h = .exc (.exc "BadGame" [("thing", a)]) h → wp (t__law_tried m h) Q := fun m hm => by
      rw [tried_exc (b := true) q tc.ok hm cls_game hr (by decide)]
      exact hq h q
    exact ⟨w _ f.1, w _ f.2.1, w _ f.2.2.1, w _ f.2.2.2⟩
theorem reord {a b : PV} {c : List PV → M PV} : (fun vs => (M.ofO (reorder [1, 0] vs)).bnd c) [a, b] = c [b, a] := rfl
/-- what is told, shown -/
theorem repr4 {due : PV} {k : Nat} (hd : Due due) (e : h[k]? = some (.lst [due, due, due, due])) : ∃ s : Str, bRepr (.ref k) h = .ok (.str s) h ∧ bRepr (.lst [due, due, due, due]) h = .ok (.str s) h := by
  obtain ⟨d, e1, w⟩ := hd.rp
  have e2 : toDs [due, due, due, due] = some [d, d, d, d] := by simp [toDs, e1]
  have w4 : Dw 8 760004 4 (.list [d, d, d, d]) := by
    have a := w.l
    have b := w.s
    have c := w.w
    have f := w.d
    refine ⟨?_, ?_, ?_, ?_⟩
    · simp [PyData.leavesShort, PyData.leavesShortAll, a]
    · simp [PyData.showable, PyData.showableAll, b]
    · simp only [PyData.weight, PyData.weightAll]
      omega
    · simp only [PyData.depth, PyData.depthAll]
      omega
  refine ⟨PyData.shown (.list [d, d, d, d]), w4.run ?_ (by decide) (by decide), w4.run ?_ (by decide) (by decide)⟩
  · show (cellL h k).bind (fun xs => (toDs xs).map PyData.list) = _
    rw [cell_of e, Option.bind_some, e2]
    rfl
  · show (toDs [due, due, due, due]).map PyData.list = _
    rw [e2]
    rfl
theorem wp_mul4 {due : PV} : wp (bMul false (.lst [due]) (.int 4) h) Q = Q (.lst [due, due, due, due]) h := by
  have e : bMul false (.lst [due]) (.int 4) h = if [due].length * (4 : Int).toNat ≤ sizeLine ∧ -(2 ^ 63) ≤ (4 : Int) ∧ (4 : Int) < 2 ^ 63 then mkL false (List.replicate (4 : Int).toNat [due]).flatten h else .stuck := rfl
  rw [e, if_pos ⟨show 4 ≤ sizeLine by decide, by decide, by decide⟩]
  exact wp_mkL4
theorem lenO1 {n : Int} : (oddPl n).length = 16 := rfl
theorem lenO2 {n : Int} : (oddPl n ++ oddP2 n).length = 19 := rfl
theorem wp_mkLo1 {n : Int} : wp (mkL false (oddPl n) h) Q = Q (.lst (oddPl n)) h := wp_mkLf (by rw [lenO1]; decide)
theorem wp_mkLo2 {n : Int} : wp (mkL false (oddPl n ++ oddP2 n) h) Q = Q (.lst (oddPl n ++ oddP2 n)) h := wp_mkLf (by rw [lenO2]; decide)
theorem sub_step {n : Nat} {P : PV → Hv → Prop} (q : D t h) (tc : Tc t) (hn : (n : Int) ≤ 5) (hp : ∀ s h', D t h' → ∀ is : List Int, s = .tup (is.map .int) → chB n (.tup (is.map .int)) = true → Shw (.tup (is.map .int)) → P s h') : wp (c__law_subset [.ref 1, .int (n : Int)] h) P := by
  have n0 : 0 ≤ (n : Int) := by omega
  have n1 : (n : Int) < 1000 := by omega
  have f := @wp_subset t P h n q tc.cl n0 n1
  with_reducible refine f (fun mv h' hma hmb q' => ?_)
  refine hp _ _ q' mv rfl (places_true hma hmb) ?_
  have hml : mv.length ≤ 5 := asc_len (a := 0) hma fun u hu => by have := hmb u hu; omega
  exact (gv_ints (k := 5) (fun i hi => by have := hmb i hi; omega) hml (by decide)).shw
theorem law_true (ns : List Int) (h1 : ns.length ≤ 63) (h2 : ∀ z ∈ ns, Builtin.Int.intBits z ≤ 1048576) : ∃ h', c_law [.scr ns] [] = .ok (.bl true) h' := by
  have main : wp (c_law [.scr ns] []) fun v h' => v = .bl true := by
    refine wp_runF ?_
    unfold m_law
    walk_at "start"
    rw [wps_seq]
    walk_at "st"
    refine wp_deck h1 fun h q => ?_
    rw [wps_seq]
    walk_at "st"
    rw [wp_iRng1]
    walk_at "st"
    refine ⟨by decide, ?_⟩
    refine wps_forL (I := fun xs σ h => ∃ (u : List Cell) (x2 x3 x4 x5 x6 x7 x8 x9 x10 x11 : Option PV), σ = [some (.scr ns), some (.ref 1), x2, x3, x4, x5, x6, x7, x8, x9, x10, x11] ∧ D u h ∧ Tc u) _ _ _ ?_ ?_ ⟨[], _, _, _, _, _, _, _, _, _, _, rfl, q, ⟨by simp, by simp⟩⟩
    · rintro x rest σ h ⟨u, x2, x3, x4, x5, x6, x7, x8, x9, x10, x11, rfl, q, tc⟩
      refine ⟨srcOk_nil, _, rfl, ?_⟩
      rw [wps_seq]
      walk_at "st"
      refine wp_game q tc.cl (by decide) (by decide) (by decide) (by decide) fun g h3 hg hgl q3 => ?_
      have hgl2 : (g.length : Int) ≤ 5 := hgl
      have hg0 : 0 < g.length := List.length_pos_iff.mpr hg.ne
      rw [wps_seq]
      walk_at "st"
      rw [wp_len (n := g.length) (by show some (g.map Row.v).length = _; rw [List.length_map])]
      have en : natV g.length = .int (g.length : Int) := rfl
      rw [en]
      try walk_at "st"
      rw [wps_seq]
      walk_at "st"
      refine wp_draw q3 (by decide) (by decide) (fun r4 h4 a4 b4 q4 => ?_) tc.cl
      walk_at "st"
      refine wp_draw q4 (by decide) (by decide) (fun r5 h5 a5 b5 q5 => ?_) tc.cl
      rw [eqB_int]
      walk_at "st"
      generalize decide (0 < r4) = bg
      generalize decide (r5 = 0) = bp
      have gsh := (gv_game hg hgl2 (by decide)).shw
      -- a: the game, or a value that is none
      have stepA : ∀ (P : PV → Hv → Prop), (∀ a h', D u h' → ((bg = true ∧ a = gameV g) ∨ (bg = false ∧ Bad a)) → P a h') → wp (eIf (tVal (eVar 5)) (eVar 3) (eCall c__law_no_game [(eVar 1), (eVar 3)]) [some (.scr ns), some (.ref 1), some x, some (gameV g), some (.int (g.length : Int)), some (.bl bg), some (.bl bp), x7, x8, x9, x10, x11] h5) P := fun P hp => by
        walk_at "st"
        rw [truth_bl]
        walk_at "st"
        cases bg with
        | true => rw [if_pos rfl]; exact hp _ _ q5 (.inl ⟨rfl, rfl⟩)
        | false =>
          rw [if_neg (by decide)]
          exact wp_no_game q5 tc.cl hg hgl2 (by decide) fun v h' hb q' => hp _ _ q' (.inr ⟨rfl, hb⟩)
      rw [wps_seq, wps_asg]
      refine stepA _ fun a h6 q6 ha => ?_
      walk_at "st"
      -- odd
      rw [wps_seq]
      walk_at "st"
      have eLr : ∀ h, bLstRg false (.int (g.length : Int)) h = .ok (.lst (rgP 0 (g.length : Int))) h := fun h => by
        show (if -(2 ^ 62) ≤ (g.length : Int) ∧ (g.length : Int) ≤ 16777216 then mkL false (rgP 0 (g.length : Int)) h else .stuck) = _
        rw [if_pos (by omega)]
        unfold mkL
        rw [if_pos (by rw [rgP_len]; show _ ≤ 2 ^ 24; omega)]
        rfl
      rw [wp_mkL1, wp_mkT1, wp_mkT1, wp_mkT2, wp_mkT1, wp_mkT1, wp_mkT1, wp_mkT2, wp_mkT1, wp_mkT1, wp_mkKf, wp_mkT1, eLr, wp_ok, wp_powI (by decide), wp_mkLm16]
      try walk_at "st"
      have eodd : [PV.non, .int 0, .lst [.int 0], .tup [.int (g.length : Int)], .tup [.int (-1)], .tup [.int 0, .int 0], .tup [.bl true], .tup [.bl false], .tup [.str "0"], .tup [.int 0, .int (g.length : Int)], .tup [.tup [.int 0]], .dK [], .str "0", .tup [.non], .lst (rgP 0 (g.length : Int)), .int (10 ^ 39)] = oddPl (g.length : Int) := by unfold oddPl; rfl
      have e39 : (39 : Int).toNat = 39 := rfl
      rw [e39, eodd]
      have bodd := odd_pl (n := (g.length : Int)) (by omega) hgl2
      -- some
      have stepS : ∀ (P : PV → Hv → Prop), (∀ s h', D u h' → ((bp = true ∧ ∃ is : List Int, s = .tup (is.map .int) ∧ chB g.length (.tup (is.map .int)) = true ∧ Shw (.tup (is.map .int))) ∨ (bp = false ∧ BadP g.length s)) → P s h') → wp (eIf (tVal (eVar 6)) (eCall c__law_subset [(eVar 1), (eVar 4)]) (eCall c__law_pick [(eVar 1), (eBin (bAdd false) (eVar 8) (eIf (tBl (eBin cGt (eVar 4) (eCst (.int 1)))) (eLst false [(eTup [(eCst (.int 1)), (eCst (.int 0))]), (eUn (sRev false) (eCall1 bTupRg (eVar 4))), (eTup [(eCst (.int 0)), (eCst (.int 1)), (eCst (.int 0))])]) (eLst false [])))]) [some (.scr ns), some (.ref 1), some x, some (gameV g), some (.int (g.length : Int)), some (.bl bg), some (.bl bp), some a, some (.lst (oddPl (g.length : Int))), x9, x10, x11] h6) P := fun P hp => by
        walk_at "st"
        rw [truth_bl]
        walk_at "st"
        cases bp with
        | true =>
          rw [if_pos rfl]
          with_reducible refine sub_step (n := g.length) q6 tc hgl2 fun s h' b mv e1 e2 e3 => hp _ _ b (.inl ⟨rfl, mv, e1, e2, e3⟩)
        | false =>
          rw [if_neg (by decide)]
          split
          · rename_i hn1
            have hn1 : 1 < (g.length : Int) := of_decide_eq_true hn1
            have eT : ∀ h, bTupRg (.int (g.length : Int)) h = .ok (.tup (rgP 0 (g.length : Int))) h := fun h => by
              show (if -(2 ^ 62) ≤ (g.length : Int) ∧ (g.length : Int) ≤ 16777216 then Res.ok (PV.tup (rgP 0 (g.length : Int))) h else .stuck) = _
              rw [if_pos (by omega)]
            have eR : ∀ (xs : List PV) h, sRev false (.tup xs) h = .ok (.tup xs.reverse) h := fun _ _ => rfl
            rw [wp_mkT2, eT, wp_ok, eR, wp_ok, wp_mkT3, wp_mkL3, wp_addL]
            have e2 : oddPl (g.length : Int) ++ [.tup [.int 1, .int 0], .tup (rgP 0 (g.length : Int)).reverse, .tup [.int 0, .int 1, .int 0]] = oddPl (g.length : Int) ++ oddP2 (g.length : Int) := rfl
            have bo2 := odd_p2 hn1 hgl2
            rw [e2, wp_mkLo2]
            have ball : ∀ x ∈ oddPl (g.length : Int) ++ oddP2 (g.length : Int), BadP g.length x := fun x hx => by
              rcases List.mem_append.mp hx with hx | hx
              · exact bodd x hx
              · exact bo2 x hx
            exact pick_l q6 tc.cl (by unfold oddPl; simp) (by rw [lenO2]; decide) (fun x hx => (ball x hx).nr) fun x h' hx q' => hp _ _ q' (.inr ⟨rfl, ball x hx⟩)
          · rw [wp_mkL0, wp_addL, List.append_nil, wp_mkLo1]
            exact pick_l q6 tc.cl (by unfold oddPl; simp) (by rw [lenO1]; decide) (fun x hx => (bodd x hx).nr) fun x h' hx q' => hp _ _ q' (.inr ⟨rfl, bodd x hx⟩)
      rw [wps_seq, wps_asg]
      refine stepS _ fun s h7 q7 hs => ?_
      walk_at "st"
      -- due
      have stepD : ∃ due, Due due ∧ (∀ (t : List Cell) (h : Hv), D t h → Tc t → (∀ {Q : PV → Hv → Prop}, (∀ h', D t h' → Q due h') → wp (t__law_tried (c_safe_game [a, s]) h) Q ∧ wp (t__law_tried (c_reach_game [a, s]) h) Q ∧ wp (t__law_tried (c_again_game [a, s]) h) Q ∧ wp (t__law_tried (c_seldom_game [a, s]) h) Q)) ∧
          ∀ (P : PV → Hv → Prop), P due h7 → wp (eIf (tNot (tVal (eVar 5))) (eTup [(eCst (.str "raised")), (eLst false [(eCst (.bl true)), (eCst (.bl false))]), (eCall1 bRepr (eVar 7))]) (eIf (tVal (eVar 6)) (eTup [(eCst (.str "returned"))]) (eTup [(eCst (.str "raised")), (eLst false [(eCst (.bl false)), (eCst (.bl true))]), (eCall1 bRepr (eVar 9))])) [some (.scr ns), some (.ref 1), some x, some (gameV g), some (.int (g.length : Int)), some (.bl bg), some (.bl bp), some a, some (.lst (oddPl (g.length : Int))), some s, x10, x11] h7) P := by
        have hss : Shw s := by
          rcases hs with ⟨_, is, rfl, _, h⟩ | ⟨_, h⟩
          · exact h
          · exact h.sh
        rcases ha with ⟨rfl, rfl⟩ | ⟨rfl, hb⟩
        · rcases hs with ⟨rfl, is, rfl, hc, hsh⟩ | ⟨rfl, hbp⟩
          · refine ⟨_, due_ret, four_told hg (by omega) (.inl ⟨is, rfl, rfl, gsh, hsh, hc, rfl⟩), fun P hp => ?_⟩
            walk_at "st"
            rw [truth_bl]
            walk_at "st"
            rw [if_neg (by simp), truth_bl]
            walk_at "st"
            rw [if_pos trivial, wp_mkT1]
            exact hp
          · obtain ⟨str, hr⟩ := hbp.rp
            refine ⟨_, due_exc (b := false) hr, four_told hg (by omega) (.inr (.inl ⟨rfl, gsh, hss, hbp.ch, str, hr, rfl⟩)), fun P hp => ?_⟩
            walk_at "st"
            rw [truth_bl]
            walk_at "st"
            rw [if_neg (by simp), truth_bl]
            walk_at "st"
            rw [if_neg (by simp), wp_mkL2, hr.run (by decide), wp_ok, wp_mkT3]
            exact hp
        · obtain ⟨str, hr⟩ := hb.rp
          refine ⟨_, due_exc (b := true) hr, four_told hg (by omega) (.inr (.inr ⟨hb.sh, hss, hb.gm, str, hr, rfl⟩)), fun P hp => ?_⟩
          walk_at "st"
          rw [truth_bl]
          walk_at "st"
          rw [if_pos (by simp), wp_mkL2, hr.run (by decide), wp_ok, wp_mkT3]
          exact hp
      obtain ⟨due, hdue, told, hP⟩ := stepD
      rw [wps_seq, wps_asg]
      refine hP _ ?_
      walk_at "st"
      -- told
      rw [wps_seq]
      walk_at "st"
      refine (told u h7 q7 tc fun h8 q8 => ?_).1
      rw [wp_mkLt (xs := [due]) (show 1 ≤ sizeLine by decide), q8.len]
      try walk_at "st"
      have q9 : D (u ++ [.lst [due]]) (h8 ++ [.lst [due]]) := (Dnil q8).push
      have tcs : ∀ l : List PV, (∀ x ∈ l, x = due) → Tc (u ++ [.lst l]) := fun l hl => by
        refine tc.snoc (nrfs_each fun x hx => by rw [hl x hx]; exact hdue.nr) ?_
        show okvs true true l = true
        clear q9
        induction l with
        | nil => rfl
        | cons y l ih =>
          show (okv true true y && okvs true true l) = true
          rw [hl y (List.mem_cons_self ..), hdue.ok, ih fun x hx => hl x (List.mem_cons_of_mem _ hx)]
          rfl
      rw [wps_seq]
      walk_at "st"
      refine ⟨by rw [recv_of q9.at_]; rfl, ?_⟩
      refine (told _ _ q9 (tcs _ (by simp)) fun h10 q10 => ?_).2.1
      rw [wp_app q10.at_ (show 1 < sizeLine by decide)]
      have q11 := q10.put (c' := .lst ([due] ++ [due]))
      rw [wps_seq]
      walk_at "st"
      refine ⟨by rw [recv_of q11.at_]; rfl, ?_⟩
      refine (told _ _ q11 (tcs _ (by simp)) fun h12 q12 => ?_).2.2.1
      rw [wp_app q12.at_ (show 2 < sizeLine by decide)]
      have q13 := q12.put (c' := .lst ([due] ++ [due] ++ [due]))
      rw [wps_seq]
      walk_at "st"
      refine ⟨by rw [recv_of q13.at_]; rfl, ?_⟩
      refine (told _ _ q13 (tcs _ (by simp)) fun h14 q14 => ?_).2.2.2
      rw [wp_app q14.at_ (show 3 < sizeLine by decide)]
      have q15 := q14.put (c' := .lst ([due] ++ [due] ++ [due] ++ [due]))
      rw [wps_seq]
      walk_at "st"
      obtain ⟨str, r1, r2⟩ := repr4 hdue q15.at_
      rw [r1, wp_ok, wp_mkL1, wp_mul4, r2, wp_ok, eqv_strs, beq_self_eq_true]
      walk_at "st"
      exact ⟨_, _, _, _, _, _, _, _, _, _, _, rfl, q15, tcs _ (by simp)⟩
    · rintro σ h ⟨u, x2, x3, x4, x5, x6, x7, x8, x9, x10, x11, rfl, q, tc⟩
      refine ⟨srcOk_nil, ?_⟩
      walk_at "ev"
      have e : leave 0 (.ok (.bl true) h) = .ok (.bl true) (h.take 0) := rfl
      rw [e]
      rfl
  obtain ⟨v, h', e, rfl⟩ := main.eq
  exact ⟨h', e⟩
end
end K78
end HS
end
-- text k78z
section
set_option Elab.async false
set_option linter.all false
set_option maxRecDepth 100000
set_option maxHeartbeats 0
namespace HS
open PySem PySem.Spec PyProof.Rows
namespace K78
theorem law_bind {K : PySem.W.Frag} (fd : FuncData) (F : DefAt K d_law fd) (s : Shared) (u : Value) : BindsTo s fd ⟨[u], []⟩ [(("script" : Str), u)] :=
  L2.FunD.bindsA (ps := ["script"]) F (fun _ _ _ _ _ _ us hl => match us, hl with | [_], _ => rfl) s [u] rfl
theorem law_in : d_law ∈ defs := by
  unfold defs
  simp only [List.mem_cons, true_or, or_true]
end K78
end HS
open PySem PySem.W PySem.Calls PyProof.Rows
theorem PySem.Challenge.cw_howmanyslips_k78_refusals_of_goals_holds : PySem.Challenge.rw_howmanyslips_k78_refusals_of_goals.Holds := by
  w_on; o_law
  refine HandSHeadRun.head_any (r := HS.K78.R) (q := view HS.K78.R.prog [39]) (H := HS.K78.hk) (ob := HS.K78.ob) (M := 15000) (loose := HS.K78.loose) (d := HandSHeadRun.topDef HS.K78.R.prog 39) (kwd := []) HS.K78.ob_eq
    (by kernel_rfl) (fun s => by kernel_rfl) HS.K78.run (by kernel_rfl) (by kernel_rfl) (by kernel_rfl) (by rfl) (by first | assumption | decide +kernel) (by decide +kernel) ⟨rfl, rfl, rfl, rfl, rfl, by decide +kernel⟩ ?hw ?hc
  case hw => w_witness2
  case hc =>
    refine HS.walk_lawE (l := PySem.Challenge.rw_howmanyslips_k78_refusals_of_goals) (n := 63) (k := 12) (x := "script") rfl (by decide) (by kernel_rfl) ⟨rfl, by decide, by decide⟩ ?F
    intro w mg fa h Y G hmg0
    obtain ⟨K, KX, S⟩ := Y
    have hmg : mg ("law" : PySem.Str) = some (.ref fa) := by
      have e : (HandSHeadRun.topDef HS.K78.R.prog 39).name = ("law" : PySem.Str) := by kernel_rfl
      rw [← e]
      exact hmg0
    exact ⟨K, KX, HS.text_law (dl := HS.K78.d_law) (x := "script") HS.K78.pg_ok KX G S HS.K78.law_in rfl hmg (fun fd F s u => HS.K78.law_bind fd F s u) HS.K78.law_true⟩
end
