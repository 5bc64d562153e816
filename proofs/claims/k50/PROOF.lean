import PyProof.Rows.All
import Wide.All
import OpenK.AllK
import Wide.FinOn
import PySem.Challenge.RW_dueworth_k50_deeds_cut
import HandS.ForMost
import HandS.ForExc
import HandS.Wide
import PyProof.ReprReads
import HandS.Rev
import HandS.Conv
import PyProof.ListStr
import HandS.TupMul
import HandS.TupLe
import HandS.Style
import HandS.CallSlots
import HandS.Defaults
import HandS.HeadEnd
import KE.GoesMore
import KE.GoesEnum
import KE.GoesZip
import HandS.Deep
import HandS.TupAny
import HandS.Flow
import HandS.IsInst
import HandS.Replace
import HandS.Zip
import HandS.Small
import HandS.Strs
import HandS.More
import HandS.RaiseMore
import PyProof.ReprRoads
import HandS.WordsExc
import HandS.Head0
import HandS.Head1
import HandS.Head2
import HandS.HeadHook1
import HandS.HeadHook2
import HandS.HeadHook3
import HandS.HeadHook4
import PyProof.StrLawsRepr
set_option Elab.async false
set_option linter.all false
set_option maxRecDepth 100000
set_option maxHeartbeats 0
/-! a small evaluator over trees of data, in plain Lean (no program in sight). -/
namespace J
open PySem L2

/-- data: lists and tuples as trees; ref n: the n-th cell of the store (a list or dict that is shared and changed) -/
inductive D where
  | non | bl (b : Bool) | int (i : Int) | str (x : Str) | tup (ds : List D) | lst (ds : List D) | ref (n : Nat)
  /-- the script -/
  | src (ns : List Int)

inductive Cell where
  | dead | lst (ds : List D) | dct (kvs : List (Key × D)) | ins (C : Str) (fs : List (Str × D))
abbrev Sto := List Cell

/-- an exception: its class by name, its fields -/
structure Ex where
  cls : Str
  fs : List (Str × D)
inductive Res (α : Type) where
  | ok (a : α) (μ : Sto)
  | exc (x : Ex) (μ : Sto)
abbrev M (α : Type) := Sto → Option (Res α)
@[inline] def M.pure {α : Type} (a : α) : M α := fun μ => some (.ok a μ)
@[inline] def M.bind {α β : Type} (m : M α) (f : α → M β) : M β := fun μ => match m μ with
  | none => none
  | some (.exc x μ1) => some (.exc x μ1)
  | some (.ok a μ1) => f a μ1
instance : Monad M where
  pure := M.pure
  bind := M.bind
def stuck {α : Type} : M α := fun _ => none
/-- no exception comes out of it -/
def noex {α : Type} (m : M α) : M α := fun μ => match m μ with
  | some (.ok a μ1) => some (.ok a μ1)
  | _ => none
def oM {α : Type} : Option α → M α
  | none => stuck
  | some a => M.pure a

/-- what an expression hands back: a value; a new list; the list that the slot i owns -/
inductive RV where
  | v (d : D) | fr (ds : List D) | bo (i : Nat) (ds : List D)
def RV.d : RV → D
  | .v d => d | .fr ds => .lst ds | .bo _ ds => .lst ds
def RV.hold : RV → RV
  | .fr ds => .v (.lst ds) | y => y
def RV.val : RV → Option D
  | .v d => some d | .fr ds => some (.lst ds) | .bo _ _ => none
inductive Slot where
  | none | val (d : D) | own (ds : List D)
abbrev Env := List Slot

/-! ### the text -/
inductive Lit where
  | non | bl (b : Bool) | int (i : Int) | str (x : Str)
inductive T where
  | nm (i : Nat) | tp (ts : List T)
inductive BOp where
  | add | sub | mul | fdiv | mod | pow
  deriving DecidableEq
inductive COp where
  | eq | ne | lt | le | gt | ge | isin | notin | is | isnot
  deriving DecidableEq
/-- built-in functions -/
inductive Blt where
  | len | max2 | min2 | maxL | minL | sum | abs | int | str | list | tuple | all | any
  | isBool | isInt | isStr | isTuple | isList | isLT | repr
  deriving DecidableEq
/-- methods -/
inductive Mth where
  | join | split | index | sindex | get | pop | popAt | tindex
  deriving DecidableEq
inductive E where
  | lit (l : Lit)
  | var (i : Nat)
  | glob (g : Nat)
  | bin (o : BOp) (a b : E)
  | neg (a : E)
  | not (a : E)
  | cmp (o : COp) (a b : E)
  | chain (o p : COp) (a b c : E)
  | and (a b : E)
  | or (a b : E)
  | ite (c a b : E)
  | tup (es : List E)
  | lst (es : List E)
  /-- of the text nothing: a new list becomes a cell -/
  | cell (e : E)
  | dct (ks : List Key) (vs : List E)
  | idx (a i : E)
  | slc (a : E) (lo hi : Option E)
  | rev (a : E)
  | comp (own : List Nat) (t : T) (it : E) (c : Option E) (e : E)
  | call (f : Nat) (es : List E)
  | blt (b : Blt) (es : List E)
  | meth (m : Mth) (o : E) (es : List E)
  /-- what a loop walks (nowhere else) -/
  | irng (a : E)
  | irng2 (a b : E)
  | ienum (a : E)
  | izip (a b : E)
  | izip3 (a b c : E)
  | irev (a : E)
  /-- a tuple backwards, without its last thing or with it -/
  | revt (cut : Bool) (a : E)
  /-- a list in a cell, against the empty list -/
  | nilc (eq : Bool) (a : E)
inductive S where
  | asg (t : T) (e : E)
  /-- x = e, a new list that the slot owns from now on -/
  | own (i : Nat) (e : E)
  | par2 (i j : Nat) (a b : E)
  | par3 (i j k : Nat) (a b c : E)
  /-- of the text nothing: the list that the slot owns may be shared, and is not changed from now on -/
  | share (i : Nat)
  | put (o i e : E)
  | app (o e : E)
  | ext (o e : E)
  | ret (e : E)
  | ifs (c : E) (a b : List S)
  | fors (t : T) (it : E) (b : List S)
  | whl (c : E) (b : List S)
  | expr (e : E)
  | pass
  | cont
  /-- o.insert(i, e), o.clear(), o.reverse(), o[i] += e -/
  | ins (o i e : E)
  | clr (o : E)
  | rvs (o : E)
  | aug (o i e : E)
structure Fn where
  np : Nat
  ns : Nat
  body : List S

/-! ### data as the comparison has it -/
mutual
def D.py : D → PyData
  | .non => .none | .bl b => .bool b | .int i => .int i | .str x => .str x
  | .tup ds => .tuple (pys ds) | .lst ds => .list (pys ds) | .ref _ => .dict [] | .src _ => .dict []
def pys : List D → List PyData
  | [] => []
  | d :: ds => d.py :: pys ds
end
def shp (d : D) : Bool := SeqAt.shaped d.py
def eqD (a b : D) : Bool := PyData.eqv a.py b.py
def litD : Lit → D
  | .non => .non | .bl b => .bl b | .int i => .int i | .str x => .str x
def strD (c : Nat) : D := .str ⟨#[c]⟩
def fitL (n : Nat) : Bool := decide (n ≤ sizeLine)
def isFlat : D → Bool
  | .non => true | .bl _ => true | .int _ => true | .str _ => true | _ => false
def dV : D → V
  | .non => .non | .bl b => .bl b | .int i => .int i | .str x => .str x | _ => .ref 0

/-! ### operations -/
def binD : BOp → D → D → Option RV
  | .add, .int a, .int b => some (.v (.int (a + b)))
  | .add, .str a, .str b => if a.length + b.length ≤ sizeLine then some (.v (.str (a ++ b))) else none
  | .add, .lst a, .lst b => if a.length + b.length ≤ sizeLine then some (.fr (a ++ b)) else none
  | .add, .tup a, .tup b => if a.length + b.length ≤ sizeLine then some (.v (.tup (a ++ b))) else none
  | .sub, .int a, .int b => some (.v (.int (a - b)))
  | .mul, .int a, .int b => if a.natAbs.log2 + b.natAbs.log2 < 1000000 then some (.v (.int (a * b))) else none
  | .mul, .lst a, .int k => if 0 ≤ k ∧ k ≤ 1000000 ∧ a.length * k.toNat ≤ 1000000 then some (.fr (List.replicate k.toNat a).flatten) else none
  | .mul, .tup a, .int k => if a ≠ [] ∧ 0 ≤ k ∧ k ≤ 1000 ∧ a.length ≤ 1000 then some (.v (.tup (List.replicate k.toNat a).flatten)) else none
  | .fdiv, .int a, .int b => if 0 < b ∧ b.natAbs.log2 < 9000 then some (.v (.int (a / b))) else none
  | .mod, .int a, .int b => if 0 < b then some (.v (.int (a % b))) else none
  | .pow, .int a, .int b => if 0 ≤ b ∧ b ≤ 1000000 ∧ a.natAbs < 2 ^ 64 then some (.v (.int (a ^ b.toNat))) else none
  | _, _, _ => none
def itemsD : D → Option (List D)
  | .lst ds => some ds
  | .tup ds => some ds
  | _ => none
/-- backwards, without the last or with it -/
def backL {α : Type} (xs : List α) (cut : Bool) : List α := if cut then xs.dropLast.reverse else xs.reverse
def listD : D → Option (List D)
  | .lst ds => some ds
  | _ => none
/-- two lists, or two tuples -/
def twoD : D → D → Option (List D × List D)
  | .lst ds, .lst es => some (ds, es)
  | .tup ds, .tup es => some (ds, es)
  | _, _ => none
def inD (a b : D) : Option Bool := match b with
  | .str y => (match a with
    | .str x => some (!(Builtin.Str.occurrences y x 0 y.length 1).isEmpty)
    | _ => none)
  | .lst ds => if isFlat a ∧ ds.all isFlat then some (ds.any fun z => eqD z a) else if shp a ∧ shp (.lst ds) then some (ds.any fun z => eqD z a) else none
  | .tup ds => if isFlat a ∧ ds.all isFlat then some (ds.any fun z => eqD z a) else if shp a ∧ shp (.tup ds) then some (ds.any fun z => eqD z a) else none
  | _ => none
def cmpD : COp → D → D → Option Bool
  | .eq, a, b => if shp a ∧ shp b then some (eqD a b) else (match a, b with
    | .str x, .str y => some (decide (x = y))
    | _, _ => none)
  | .ne, a, b => if shp a ∧ shp b then some (!eqD a b) else (match a, b with
    | .str x, .str y => some (!decide (x = y))
    | _, _ => none)
  | .lt, .int a, .int b => some (decide (a < b))
  | .le, .int a, .int b => some (decide (a ≤ b))
  | .gt, .int a, .int b => some (decide (b < a))
  | .ge, .int a, .int b => some (decide (b ≤ a))
  | .isin, a, b => inD a b
  | .notin, a, b => (inD a b).map (!·)
  | .is, a, .non => some (match a with | .non => true | _ => false)
  | .isnot, a, .non => some (match a with | .non => false | _ => true)
  | .is, .bl a, .bl b => some (decide (a = b))
  | .isnot, .bl a, .bl b => some (!decide (a = b))
  | _, _, _ => none
def truD : D → Option Bool
  | .non => some false
  | .bl b => some b
  | .int i => some (i != 0)
  | .str x => if x.length ≤ sizeLine then some ((x.length : Int) != 0) else none
  | .tup ds => some (!ds.isEmpty)
  | .lst ds => some (!ds.isEmpty)
  | .ref _ => none
  | .src _ => none
def idxD (a i : D) : Option D := match i with
  | .int k => (match a with
    | .lst ds => atI ds k
    | .tup ds => atI ds k
    | .str x => if x.length ≤ sizeLine then (atI x.cps.toList k).map strD else none
    | _ => none)
  | _ => none
def cutD {α : Type} (xs : List α) (lo hi : Option Int) : List α := (xs.drop (HT.sIx xs.length 0 lo)).take (HT.sIx xs.length xs.length hi - HT.sIx xs.length 0 lo)
def slcD (a : D) (lo hi : Option Int) : Option RV := match a with
  | .lst ds => some (.fr (cutD ds lo hi))
  | .tup ds => some (.v (.tup (cutD ds lo hi)))
  | .src ns => some (.fr (cutD (ns.map .int) lo hi))
  | .str x => if x.length ≤ sizeLine then some (.v (.str (cutS x lo hi))) else none
  | _ => none
def intsD : List D → Option (List Int)
  | [] => some []
  | .int i :: r => (intsD r).map (i :: ·)
  | _ :: _ => none
def blsD : List D → Option (List Bool)
  | [] => some []
  | .bl i :: r => (blsD r).map (i :: ·)
  | _ :: _ => none
def strsD : List D → Option (List Str)
  | [] => some []
  | .str i :: r => (strsD r).map (i :: ·)
  | _ :: _ => none
def maxI : List Int → Int
  | [] => 0
  | [a] => a
  | a :: r => max a (maxI r)
def minI : List Int → Int
  | [] => 0
  | [a] => a
  | a :: r => min a (minI r)
def isBoolD : D → Bool
  | .bl _ => true | _ => false
def isIntD : D → Bool
  | .bl _ => true | .int _ => true | _ => false
def isStrD : D → Bool
  | .str _ => true | _ => false
def isTupleD : D → Bool
  | .tup _ => true | _ => false
def isListD : D → Bool
  | .lst _ => true | .src _ => true | _ => false
def isiD (d : D) (b : Bool) : Option RV := match d with
  | .ref _ => none
  | _ => some (.v (.bl b))
/-- the text of a value -/
def reprD : D → Option Str
  | .int i => if i.natAbs.log2 < 1920 then some (toString i) else none
  | .str x => if (reprText x).length ≤ sizeLine then some (reprText x) else none
  | .tup ds => if shp (.tup ds) = true ∧ (D.tup ds).py.showable = true ∧ (D.tup ds).py.shown.length ≤ sizeLine then some (D.tup ds).py.shown else none
  | .lst ds => if shp (.lst ds) = true ∧ (D.lst ds).py.showable = true ∧ (D.lst ds).py.shown.length ≤ sizeLine then some (D.lst ds).py.shown else none
  | _ => none
def bltD : Blt → List D → Option RV
  | .len, [.lst ds] => some (.v (.int ds.length))
  | .len, [.tup ds] => some (.v (.int ds.length))
  | .len, [.src ds] => some (.v (.int ds.length))
  | .len, [.str x] => if x.length ≤ sizeLine then some (.v (.int x.length)) else none
  | .max2, [.int a, .int b] => some (.v (.int (if b > a then b else a)))
  | .min2, [.int a, .int b] => some (.v (.int (if b < a then b else a)))
  | .maxL, [.lst ds] => (intsD ds).bind fun ns => if 0 < ns.length then some (.v (.int (maxI ns))) else none
  | .minL, [.lst ds] => (intsD ds).bind fun ns => if 0 < ns.length then some (.v (.int (minI ns))) else none
  | .sum, [.lst ds] => (intsD ds).map fun ns => .v (.int ns.sum)
  | .abs, [.int a] => some (.v (.int (if a < 0 then -a else a)))
  | .int, [.int a] => some (.v (.int a))
  | .int, [.bl b] => some (.v (.int (if b then 1 else 0)))
  | .int, [.str x] => if x.length ≤ 640 then (PySem.intText? x).map fun n => .v (.int n) else none
  | .str, [.int a] => if a.natAbs.log2 < 1920 then some (.v (.str (toString a))) else none
  | .list, [.lst ds] => some (.fr ds)
  | .list, [.tup ds] => some (.fr ds)
  | .list, [.str x] => if x.length ≤ sizeLine then some (.fr (x.cps.toList.map strD)) else none
  | .tuple, [.lst ds] => some (.v (.tup ds))
  | .tuple, [.tup ds] => some (.v (.tup ds))
  | .all, [.lst ds] => (blsD ds).map fun bs => .v (.bl (bs.all id))
  | .any, [.lst ds] => (blsD ds).map fun bs => .v (.bl (bs.any id))
  | .isBool, [d] => isiD d (isBoolD d)
  | .isInt, [d] => isiD d (isIntD d)
  | .isStr, [d] => isiD d (isStrD d)
  | .isTuple, [d] => isiD d (isTupleD d)
  | .isList, [d] => isiD d (isListD d)
  | .isLT, [d] => isiD d (isListD d || isTupleD d)
  | .repr, [d] => (reprD d).map fun z => .v (.str z)
  | _, _ => none

/-! ### the store -/
def getC (μ : Sto) (n : Nat) : Option Cell := μ[n]?
def setC (n : Nat) (c : Cell) : M Unit := fun μ => some (.ok () (μ.set n c))
def newC (c : Cell) : M Nat := fun μ => some (.ok μ.length (μ ++ [c]))
def getM : M Sto := fun μ => some (.ok μ μ)
def keyD : D → Option Key
  | .int i => some (.inl i)
  | .str x => some (.inr x)
  | _ => none
def findK (kvs : List (Key × D)) (k : Key) : Option D := (kvs.find? fun p => decide (p.1 = k)).map (·.2)
def setK (kvs : List (Key × D)) (k : Key) (d : D) : List (Key × D) :=
  if (kvs.any fun p => decide (p.1 = k)) = true then kvs.map (fun p => if p.1 = k then (p.1, d) else p) else kvs ++ [(k, d)]

/-! ### targets -/
mutual
def bindT : T → D → Env → Option Env
  | .nm i, d, ρ => if i < ρ.length then some (ρ.set i (.val d)) else none
  | .tp ts, d, ρ => (match d with
    | .tup ds => bindTs ts ds ρ
    | _ => none)
def bindTs : List T → List D → Env → Option Env
  | [], [], ρ => some ρ
  | t :: ts, d :: ds, ρ => (bindT t d ρ).bind fun ρ1 => bindTs ts ds ρ1
  | _, _, _ => none
end
def wipeS (ρ : Env) : List Nat → Env
  | [] => ρ
  | v :: vs => (wipeS ρ vs).set v .none

/-! ### tables: what stands under a number -/
def atT {α : Type} : List (Nat × α) → Nat → Option α
  | [], _ => none
  | p :: r, i => cond (Nat.beq p.1 i) (some p.2) (atT r i)
abbrev GT := List (Nat × D)
abbrev FT := List (Nat × Fn)
/-! ### expressions -/
abbrev Calls := Nat → List D → M RV
def mapItems (f : D → M (Option D)) : List D → M (List D)
  | [] => M.pure []
  | d :: ds => M.bind (f d) fun o => M.bind (mapItems f ds) fun r => M.pure (match o with | none => r | some x => x :: r)
def enumD (n : Nat) : List D → List D
  | [] => []
  | d :: ds => .tup [.int n, d] :: enumD (n + 1) ds
def zipD : List D → List D → List D
  | a :: as, b :: bs => .tup [a, b] :: zipD as bs
  | _, _ => []
def zip3D : List D → List D → List D → List D
  | a :: as, b :: bs, c :: cs => .tup [a, b, c] :: zip3D as bs cs
  | _, _, _ => []
def walkD : D → Option (List D)
  | .lst ds => some ds
  | .tup ds => some ds
  | .str x => some (x.cps.toList.map strD)
  | _ => none
def methD : Mth → D → List D → Option RV
  | .join, .str a, [d] => (itemsD d).bind fun ds => (strsD ds).bind fun ys => if (ys.map (·.length)).sum + ys.length * a.length ≤ 16777216 then some (.v (.str (Txt.join a ys))) else none
  | .split, .str a, [.str b] => if b.length ≠ 0 ∧ a.length + 2 ≤ sizeLine then some (.fr ((Txt.split a b).map .str)) else none
  | .sindex, .str a, [.str b] => (match Builtin.Str.occurrences a b 0 a.length 1 with
    | i :: _ => some (.v (.int i))
    | [] => none)
  | .tindex, .tup ds, [d] => (match d, strsD ds with
    | .str z, some ys => (ys.findIdx? fun y => decide (y = z)).map fun j => .v (.int j)
    | _, _ => none)
  | .index, .lst ds, [d] => if isFlat d ∧ ds.all isFlat then (ds.findIdx? fun z => eqD z d).map fun j => .v (.int j) else none
  | _, _, _ => none
def notL : D → Bool
  | .lst _ => false
  | _ => true
/-- the method is the object's -/
def chkM (m : Mth) (o : D) : M Unit := fun μ => match m, o with
  | .join, .str _ => some (.ok () μ)
  | .split, .str _ => some (.ok () μ)
  | .sindex, .str _ => some (.ok () μ)
  | .index, .lst _ => some (.ok () μ)
  | .tindex, .tup _ => some (.ok () μ)
  | .get, .ref n => (match μ[n]? with
    | some (.dct _) => some (.ok () μ)
    | _ => none)
  | .pop, .ref n => (match μ[n]? with
    | some (.lst _) => some (.ok () μ)
    | _ => none)
  | .popAt, .ref n => (match μ[n]? with
    | some (.lst _) => some (.ok () μ)
    | _ => none)
  | _, _ => none
/-- what hangs on the store -/
def methM (m : Mth) (o : D) (ds : List D) : M RV := fun μ => match o with
  | .ref n => (match μ[n]?, m, ds with
    | some (.lst xs), .pop, [] => (match xs.getLast? with
      | some x => some (.ok (.v x) (μ.set n (.lst xs.dropLast)))
      | none => none)
    | some (.lst xs), .popAt, [.int i] => if 0 ≤ i ∧ i < 2 ^ 62 then (match xs[i.toNat]? with
      | some x => some (.ok (.v x) (μ.set n (.lst (xs.eraseIdx i.toNat))))
      | none => none) else none
    | some (.dct kvs), .get, [k, d] => (keyD k).bind fun k => if notL d = true then some (.ok (.v ((findK kvs k).getD d)) μ) else none
    | _, _, _ => none)
  | _ => oM (methD m o ds) μ
def idxM (a i : D) : M RV := fun μ => match a with
  | .ref n => (match μ[n]? with
    | some (.dct kvs) => (keyD i).bind fun k => (findK kvs k).map fun d => .ok (.v d) μ
    | some (.lst ds) => (idxD (.lst ds) i).map fun d => .ok (.v d) μ
    | _ => none)
  | _ => (idxD a i).map fun d => .ok (.v d) μ
def bltM (b : Blt) (ds : List D) : M RV := fun μ => match b, ds with
  | .len, [.ref n] => (match μ[n]? with
    | some (.lst xs) => some (.ok (.v (.int xs.length)) μ)
    | _ => none)
  | .tuple, [.ref n] => (match μ[n]? with
    | some (.lst xs) => some (.ok (.v (.tup xs)) μ)
    | _ => none)
  | .list, [.ref n] => (match μ[n]? with
    | some (.lst xs) => some (.ok (.fr xs) μ)
    | _ => none)
  | _, _ => oM (bltD b ds) μ
def nilM (eq : Bool) (d : D) : M RV := fun μ => match d with
  | .ref n => (match μ[n]? with
    | some (.lst xs) => if shp (.lst xs) = true then some (.ok (.v (.bl (if eq then xs.isEmpty else !xs.isEmpty))) μ) else none
    | _ => none)
  | _ => none
def needV (r : RV) : M D := oM r.val
def intO : D → Option Int
  | .int i => some i
  | _ => none

section
variable (C : Calls) (g : GT)
mutual
def evalE : E → Env → M RV
  | .lit l, _ => M.pure (.v (litD l))
  | .var i, ρ => (match ρ[i]? with
    | some (.val d) => M.pure (.v d)
    | some (.own ds) => M.pure (.bo i ds)
    | _ => stuck)
  | .glob n, _ => oM ((atT g n).map .v)
  | .bin o a b, ρ => M.bind (evalE a ρ) fun x => M.bind (evalE b ρ) fun y => oM (binD o x.d y.d)
  | .neg a, ρ => M.bind (evalE a ρ) fun x => oM ((intO x.d).map fun i => .v (.int (-i)))
  | .not a, ρ => M.bind (evalE a ρ) fun x => M.bind (oM (truD x.d)) fun b => M.pure (.v (.bl (!b)))
  | .cmp o a b, ρ => M.bind (evalE a ρ) fun x => M.bind (evalE b ρ) fun y => oM ((cmpD o x.d y.d).map fun b => .v (.bl b))
  | .chain o p a b c, ρ => M.bind (evalE a ρ) fun x => M.bind (evalE b ρ) fun y => M.bind (oM (cmpD o x.d y.d)) fun k =>
      if k then M.bind (evalE c ρ) fun z => oM ((cmpD p y.d z.d).map fun b => .v (.bl b)) else M.pure (.v (.bl false))
  | .and a b, ρ => M.bind (evalE a ρ) fun x => M.bind (oM (truD x.d)) fun k => if k then evalE b ρ else M.pure x.hold
  | .or a b, ρ => M.bind (evalE a ρ) fun x => M.bind (oM (truD x.d)) fun k => if k then M.pure x.hold else evalE b ρ
  | .ite c a b, ρ => M.bind (evalE c ρ) fun x => M.bind (oM (truD x.d)) fun k => if k then evalE a ρ else evalE b ρ
  | .tup es, ρ => M.bind (evalEs es ρ) fun ds => if ds.length ≤ sizeLine then M.pure (.v (.tup ds)) else stuck
  | .lst es, ρ => M.bind (evalEs es ρ) fun ds => if ds.length ≤ sizeLine then M.pure (.fr ds) else stuck
  | .cell e, ρ => M.bind (evalE e ρ) fun x => match x with
    | .fr ds => M.bind (newC (.lst ds)) fun n => M.pure (.v (.ref n))
    | _ => stuck
  | .dct ks es, ρ => M.bind (evalEs es ρ) fun ds => if ds.length = ks.length ∧ ks.length ≤ 15 ∧ ks.Nodup then M.bind (newC (.dct (ks.zip ds))) fun n => M.pure (.v (.ref n)) else stuck
  | .idx a i, ρ => M.bind (evalE a ρ) fun x => M.bind (evalE i ρ) fun y => idxM x.d y.d
  | .slc a lo hi, ρ => M.bind (evalE a ρ) fun x => M.bind (evalO lo ρ) fun l => M.bind (evalO hi ρ) fun h => oM (slcD x.d l h)
  | .rev a, ρ => M.bind (evalE a ρ) fun x => match x.d with
    | .lst ds => M.pure (.fr ds.reverse)
    | _ => stuck
  | .comp own t it c e, ρ => M.bind (evalE it ρ) fun x => match x with
    | .bo _ _ => stuck
    | _ => M.bind (oM (walkD x.d)) fun ds => M.bind (noex (mapItems (fun d => match bindT t d (wipeS ρ own) with
        | none => stuck
        | some ρ1 => M.bind (evalC c ρ1) fun k => if k then M.bind (evalE e ρ1) fun y => M.bind (needV y) fun d => M.pure (some d) else M.pure none) ds)) fun r =>
          if r.length ≤ sizeLine ∧ ds.length ≤ sizeLine then M.pure (.fr r) else stuck
  | .call f es, ρ => M.bind (evalEs es ρ) fun ds => match ds with
    | [] => noex (C f [])
    | _ => C f ds
  | .blt b es, ρ => M.bind (evalBs es ρ) fun ds => bltM b ds
  | .meth m o es, ρ => M.bind (evalE o ρ) fun x => M.bind (chkM m x.d) fun _ => M.bind (evalBs es ρ) fun ds => methM m x.d ds
  | .irng a, ρ => M.bind (evalE a ρ) fun x => M.bind (oM (intO x.d)) fun n => if -(2 ^ 62) ≤ n ∧ n < 2 ^ 62 then M.pure (.v (.lst ((List.range n.toNat).map fun (i : Nat) => .int (0 + (i : Int))))) else stuck
  | .irng2 a b, ρ => M.bind (evalE a ρ) fun x => M.bind (evalE b ρ) fun y => M.bind (oM (intO x.d)) fun m => M.bind (oM (intO y.d)) fun n =>
      if -(2 ^ 62) ≤ m ∧ m < 2 ^ 62 ∧ -(2 ^ 62) ≤ n ∧ n < 2 ^ 62 then M.pure (.v (.lst ((List.range (n - m).toNat).map fun (i : Nat) => .int (m + (i : Int))))) else stuck
  | .ienum a, ρ => M.bind (evalE a ρ) fun x => M.bind (needV x) fun d => M.bind (oM (itemsD d)) fun ds => M.pure (.v (.lst (enumD 0 ds)))
  | .izip a b, ρ => M.bind (evalE a ρ) fun x => M.bind (needV x) fun d => M.bind (evalE b ρ) fun y => M.bind (needV y) fun d' => M.bind (oM (twoD d d')) fun p => M.pure (.v (.lst (zipD p.1 p.2)))
  | .izip3 a b c, ρ => M.bind (evalE a ρ) fun x => M.bind (needV x) fun d => M.bind (evalE b ρ) fun y => M.bind (needV y) fun d' => M.bind (evalE c ρ) fun z => M.bind (needV z) fun d'' =>
      M.bind (oM (itemsD d)) fun ds => M.bind (oM (itemsD d')) fun es => M.bind (oM (itemsD d'')) fun fs => M.pure (.v (.lst (zip3D ds es fs)))
  | .irev a, ρ => M.bind (evalE a ρ) fun x => M.bind (needV x) fun d => M.bind (oM (itemsD d)) fun ds => M.pure (.v (.lst ds.reverse))
  | .revt cut a, ρ => M.bind (evalE a ρ) fun x => match x.d with
    | .tup ds => M.pure (.v (.tup (backL ds cut)))
    | _ => stuck
  | .nilc eq a, ρ => M.bind (evalE a ρ) fun x => nilM eq x.d
/-- values that are kept -/
def evalEs : List E → Env → M (List D)
  | [], _ => M.pure []
  | e :: es, ρ => M.bind (evalE e ρ) fun x => M.bind (needV x) fun d => M.bind (evalEs es ρ) fun ds => M.pure (d :: ds)
/-- values that are looked at -/
def evalBs : List E → Env → M (List D)
  | [], _ => M.pure []
  | e :: es, ρ => M.bind (evalE e ρ) fun x => M.bind (evalBs es ρ) fun ds => M.pure (x.d :: ds)
def evalO : Option E → Env → M (Option Int)
  | none, _ => M.pure none
  | some e, ρ => M.bind (evalE e ρ) fun x => M.bind (oM (intO x.d)) fun i => M.pure (some i)
def evalC : Option E → Env → M Bool
  | none, _ => M.pure true
  | some e, ρ => M.bind (evalE e ρ) fun x => oM (truD x.d)
end
/-- truth -/
def evalT (e : E) (ρ : Env) : M Bool := M.bind (evalE C g e ρ) fun x => oM (truD x.d)
end

/-! ### statements -/
/-- how a statement ends: go on, hand back, the loop's next turn, an exception (with the slots as they stand) -/
inductive Flo where
  | nx (ρ : Env) | rt (r : RV) | ct (ρ : Env) | ex (x : Ex) (ρ : Env)
/-- an expression within a statement -/
def stE {α : Type} (ρ : Env) (m : M α) (k : α → M Flo) : M Flo := fun μ => match m μ with
  | none => none
  | some (.exc x μ1) => some (.ok (.ex x ρ) μ1)
  | some (.ok a μ1) => k a μ1
/-- again and again, while the step says so (n turns at most) -/
def loopF {σ β : Type} (step : σ → Option (σ ⊕ β)) : Nat → σ → Option β
  | 0, _ => none
  | n + 1, s => match step s with
    | none => none
    | some (.inl s') => loopF step n s'
    | some (.inr b) => some b
def fuelW : Nat := 1000000000000000000000000000000000000000000000000000000000000
def eachM (f : D → Env → M Flo) : List D → Env → M Flo
  | [], ρ => M.pure (.nx ρ)
  | d :: ds, ρ => M.bind (f d ρ) fun o => match o with
    | .nx ρ1 => eachM f ds ρ1
    | .ct ρ1 => eachM f ds ρ1
    | y => M.pure y
def setD (ds : List D) (i : D) (d : D) : Option (List D) := match i with
  | .int k => (ixN ds.length k).map fun j => ds.set j d
  | _ => none
def extM (ρ : Env) (o : RV) (more : List D) : M Flo := match o with
  | .bo i ds => if ds.length + more.length ≤ sizeLine then M.pure (.nx (ρ.set i (.own (ds ++ more)))) else stuck
  | .v (.ref n) => fun μ => match μ[n]? with
    | some (.lst xs) => if xs.length + more.length ≤ sizeLine then some (.ok (.nx ρ) (μ.set n (.lst (xs ++ more)))) else none
    | _ => none
  | _ => stuck
def putM (ρ : Env) (o : RV) (i d : D) : M Flo := match o with
  | .bo k ds => M.bind (oM (setD ds i d)) fun ds' => M.pure (.nx (ρ.set k (.own ds')))
  | .v (.ref n) => fun μ => match μ[n]? with
    | some (.lst xs) => (setD xs i d).map fun xs' => .ok (.nx ρ) (μ.set n (.lst xs'))
    | some (.dct kvs) => (keyD i).bind fun k => if kvs.length < sizeLine then some (.ok (.nx ρ) (μ.set n (.dct (setK kvs k d)))) else none
    | _ => none
  | _ => stuck
def insM (ρ : Env) (o : RV) (i d : D) : M Flo := match o, i with
  | .v (.ref n), .int k => fun μ => match μ[n]? with
    | some (.lst xs) => if xs.length < sizeLine ∧ 0 ≤ k ∧ k < 2 ^ 62 then some (.ok (.nx ρ) (μ.set n (.lst (xs.take k.toNat ++ [d] ++ xs.drop k.toNat)))) else none
    | _ => none
  | _, _ => stuck
/-- a list that is changed as a whole -/
def chgM (ρ : Env) (o : RV) (f : List D → List D) : M Flo := match o with
  | .v (.ref n) => fun μ => match μ[n]? with
    | some (.lst xs) => some (.ok (.nx ρ) (μ.set n (.lst (f xs))))
    | _ => none
  | _ => stuck
def addI : D → D → Option D
  | .int a, .int b => some (.int (a + b))
  | _, _ => none
def isLst (o : RV) : M Unit := match o with
  | .bo _ _ => M.pure ()
  | .v (.ref n) => fun μ => match μ[n]? with
    | some (.lst _) => some (.ok () μ)
    | _ => none
  | _ => stuck
def slotO (ρ : Env) (i : Nat) (s : Slot) : Option Env := if i < ρ.length then some (ρ.set i s) else none
def rtV : RV → RV
  | .bo _ ds => .fr ds
  | y => y
section
variable (C : Calls) (g : GT)
/-- a loop's turn -/
def whlStep (c : Env → M Bool) (b : Env → M Flo) (p : Env × Sto) : Option ((Env × Sto) ⊕ Res Flo) := match c p.1 p.2 with
  | none => none
  | some (.exc x μ1) => some (.inr (.ok (.ex x p.1) μ1))
  | some (.ok false μ1) => some (.inr (.ok (.nx p.1) μ1))
  | some (.ok true μ1) => match b p.1 μ1 with
    | none => none
    | some (.exc x μ2) => some (.inr (.exc x μ2))
    | some (.ok (.nx ρ2) μ2) => some (.inl (ρ2, μ2))
    | some (.ok (.ct ρ2) μ2) => some (.inl (ρ2, μ2))
    | some (.ok y μ2) => some (.inr (.ok y μ2))
mutual
def evalS : S → Env → M Flo
  | .asg t e, ρ => stE ρ (evalE C g e ρ) fun x => M.bind (needV x) fun d => M.bind (oM (bindT t d ρ)) fun ρ1 => M.pure (.nx ρ1)
  | .own i e, ρ => stE ρ (evalE C g e ρ) fun x => match x with
    | .fr ds => M.bind (oM (slotO ρ i (.own ds))) fun ρ1 => M.pure (.nx ρ1)
    | _ => stuck
  | .par2 i j a b, ρ => stE ρ (evalEs C g [a, b] ρ) fun ds => match ds with
    | [d, d'] => M.bind (oM (slotO ρ i (.val d))) fun ρ1 => M.bind (oM (slotO ρ1 j (.val d'))) fun ρ2 => M.pure (.nx ρ2)
    | _ => stuck
  | .par3 i j k a b c, ρ => stE ρ (evalEs C g [a, b, c] ρ) fun ds => match ds with
    | [d, d', d''] => M.bind (oM (slotO ρ i (.val d))) fun ρ1 => M.bind (oM (slotO ρ1 j (.val d'))) fun ρ2 => M.bind (oM (slotO ρ2 k (.val d''))) fun ρ3 => M.pure (.nx ρ3)
    | _ => stuck
  | .share i, ρ => (match ρ[i]? with
    | some (.own ds) => M.pure (.nx (ρ.set i (.val (.lst ds))))
    | _ => stuck)
  | .put o i e, ρ => stE ρ (evalE C g e ρ) fun x => M.bind (needV x) fun d => stE ρ (evalE C g o ρ) fun y => stE ρ (evalE C g i ρ) fun z => putM ρ y z.d d
  | .app o e, ρ => stE ρ (evalE C g o ρ) fun y => M.bind (isLst y) fun _ => stE ρ (evalEs C g [e] ρ) fun ds => match ds with
    | [d] => extM ρ y [d]
    | _ => stuck
  | .ext o e, ρ => stE ρ (evalE C g o ρ) fun y => M.bind (isLst y) fun _ => stE ρ (evalEs C g [e] ρ) fun ds => match ds with
    | [.lst es] => extM ρ y es
    | _ => stuck
  | .ret e, ρ => stE ρ (evalE C g e ρ) fun x => M.pure (.rt (rtV x))
  | .ifs c a b, ρ => stE ρ (evalT C g c ρ) fun k => if k then evalSs a ρ else evalSs b ρ
  | .fors t it b, ρ => stE ρ (evalE C g it ρ) fun x => match x with
    | .bo _ _ => stuck
    | _ => M.bind (oM (walkD x.d)) fun ds => eachM (fun d ρ => M.bind (oM (bindT t d ρ)) fun ρ1 => evalSs b ρ1) ds ρ
  | .whl c b, ρ => fun μ => loopF (whlStep (fun ρ => evalT C g c ρ) (fun ρ => evalSs b ρ)) fuelW (ρ, μ)
  | .expr e, ρ => stE ρ (evalE C g e ρ) fun _ => M.pure (.nx ρ)
  | .pass, ρ => M.pure (.nx ρ)
  | .cont, ρ => M.pure (.ct ρ)
  | .ins o i e, ρ => stE ρ (evalE C g o ρ) fun y => M.bind (isLst y) fun _ => stE ρ (evalEs C g [i, e] ρ) fun ds => match ds with
    | [k, d] => insM ρ y k d
    | _ => stuck
  | .clr o, ρ => stE ρ (evalE C g o ρ) fun y => M.bind (isLst y) fun _ => chgM ρ y fun _ => []
  | .rvs o, ρ => stE ρ (evalE C g o ρ) fun y => M.bind (isLst y) fun _ => chgM ρ y List.reverse
  | .aug o i e, ρ => stE ρ (evalE C g o ρ) fun y => M.bind (isLst y) fun _ => stE ρ (evalE C g i ρ) fun z => M.bind (idxM y.d z.d) fun x => stE ρ (evalE C g e ρ) fun w => M.bind (oM (addI x.d w.d)) fun d => putM ρ y z.d d
def evalSs : List S → Env → M Flo
  | [], ρ => M.pure (.nx ρ)
  | s :: ss, ρ => M.bind (evalS s ρ) fun o => match o with
    | .nx ρ1 => evalSs ss ρ1
    | y => M.pure y
end
end
/-! ### a program: its functions; calls of a depth of at most k -/
def start (F : Fn) (ds : List D) : Env := ds.map .val ++ List.replicate (F.ns - ds.length) .none
def endF : Flo → M RV
  | .nx _ => M.pure (.v .non)
  | .rt r => M.pure r
  | .ct _ => stuck
  | .ex x _ => fun μ => some (.exc x μ)
def callP (P : FT) (g : GT) : Nat → Calls
  | 0 => fun _ _ => stuck
  | k + 1 => fun f ds => match atT P f with
    | none => stuck
    | some F => if ds.length = F.np then M.bind (noex (evalSs (callP P g k) g F.body (start F ds))) endF else stuck
end J
/-! how data lie in the abstract heap; what stays. -/
namespace J
open PySem L2 PySem.Spec PyProof.Rows

abbrev St := L2.St
structure Gh where
  φ : List Addr
  Fz : Addr → Prop

def LsR (G : Gh) (H : Hp) (a : Addr) (vs : List V) : Prop := G.Fz a ∧ H a = some (.lst vs)
theorem LsR.sq {K : PySem.W.Frag} {G : Gh} {H : Hp} {a : Addr} {vs : List V} (h : LsR G H a vs) : SqL K H a vs := .inl (.inl h.2)

/-- a list of the written part -/
def SqK (K : PySem.W.Frag) (a : Addr) (xs : List V) : Prop :=
  ∃ (o : Obj) (its : Array Value) (n : Nat), K.lookup a = some o ∧ o.cls = .type "list" ∧ o.dict = none ∧ o.data = .seq its n ∧ its.size ≤ sizeLine ∧ Vals xs its.toList
mutual
def Rep (K : PySem.W.Frag) (G : Gh) (H : Hp) : D → V → Prop
  | .non, v => v = .non
  | .bl b, v => v = .bl b
  | .int i, v => v = .int i
  | .str x, v => v = .str x
  | .tup ds, v => ∃ a vs, v = .ref a ∧ SqT K H a vs ∧ Reps K G H ds vs
  | .lst ds, v => ∃ a vs, v = .ref a ∧ LsR G H a vs ∧ Reps K G H ds vs
  | .ref n, v => ∃ a, v = .ref a ∧ G.φ[n]? = some a
  | .src ns, v => ∃ a, v = .ref a ∧ ((G.Fz a ∧ Rd H a (.lst (ns.map V.int))) ∨ SqK K a (ns.map V.int))
def Reps (K : PySem.W.Frag) (G : Gh) (H : Hp) : List D → List V → Prop
  | [], vs => vs = []
  | d :: ds, vs => ∃ v r, vs = v :: r ∧ Rep K G H d v ∧ Reps K G H ds r
end

/-- a cell that may be changed stands at b -/
def Lv (G : Gh) (μ : Sto) (b : Addr) : Prop := ∃ (n : Nat) (c : Cell), G.φ[n]? = some b ∧ μ[n]? = some c ∧ c ≠ .dead

/-- what may have become of a heap, seen from a part of the code -/
structure Ext (G : Gh) (μ : Sto) (H : Hp) (G' : Gh) (μ' : Sto) (H' : Hp) : Prop where
  pre : ∀ (n : Nat) (a : Addr), G.φ[n]? = some a → G'.φ[n]? = some a
  new : ∀ (n : Nat) (a : Addr), G'.φ[n]? = some a → G.φ[n]? = some a ∨ H a = none
  fz : ∀ b, G.Fz b → G'.Fz b
  fzn : ∀ b, G'.Fz b → G.Fz b ∨ H b = none ∨ Lv G μ b
  keep : ∀ b o, H b = some o → ¬ Lv G μ b → H' b = some o
  old : ∀ b, H' b = none → H b = none
  lv : ∀ b, Lv G' μ' b → Lv G μ b ∨ H b = none
theorem Ext.refl (G : Gh) (μ : Sto) (H : Hp) : Ext G μ H G μ H :=
  ⟨fun _ _ h => h, fun _ _ h => .inl h, fun _ h => h, fun _ h => .inl h, fun _ _ h _ => h, fun _ h => h, fun _ h => .inl h⟩
section
variable {G G1 G2 : Gh} {μ μ1 μ2 : Sto} {H H1 H2 : Hp}
theorem Ext.trans (a : Ext G μ H G1 μ1 H1) (b : Ext G1 μ1 H1 G2 μ2 H2) : Ext G μ H G2 μ2 H2 where
  pre := fun n x h => b.pre n x (a.pre n x h)
  new := fun n x h => (b.new n x h).elim (fun h => a.new n x h) fun h => .inr (a.old x h)
  fz := fun x h => b.fz x (a.fz x h)
  fzn := fun x h => (b.fzn x h).elim (fun h => a.fzn x h) fun h => h.elim (fun h => .inr (.inl (a.old x h))) fun h => (a.lv x h).elim (fun h => .inr (.inr h)) fun h => .inr (.inl h)
  keep := fun x o h n => b.keep x o (a.keep x o h n) fun l => (a.lv x l).elim (fun l => n l) fun e => by rw [e] at h; cases h
  old := fun x h => a.old x (b.old x h)
  lv := fun x h => (b.lv x h).elim (fun h => a.lv x h) fun h => .inr (a.old x h)
end

/-- the heap and the store belong together -/
def KvR (K : PySem.W.Frag) (G : Gh) (H : Hp) : List (Key × D) → List (Key × V) → Prop
  | [], vs => vs = []
  | p :: ps, vs => ∃ v r, vs = (p.1, v) :: r ∧ Rep K G H p.2 v ∧ KvR K G H ps r
def FsR (K : PySem.W.Frag) (G : Gh) (H : Hp) (fs : List (Str × D)) (gs : List (Str × V)) : Prop :=
  ∀ f, (∀ d, fs.lookup f = some d → ∃ v, gs.lookup f = some v ∧ Rep K G H d v) ∧ (fs.lookup f = none → gs.lookup f = none)
def CellR (K : PySem.W.Frag) (Ca : Str → Addr) (G : Gh) (H : Hp) (c : Cell) (a : Addr) : Prop := match c with
  | .dead => True
  | .lst ds => ∃ vs, H a = some (.lst vs) ∧ Reps K G H ds vs
  | .dct kvs => ∃ vs, H a = some (.dK vs) ∧ KvR K G H kvs vs
  | .ins C fs => ∃ dx gs, H a = some (.ins (Ca C) dx gs) ∧ fs.length = gs.length ∧ FsR K G H fs gs
structure Okk (K : PySem.W.Frag) (Ca : Str → Addr) (G : Gh) (μ : Sto) (H : Hp) : Prop where
  len : μ.length = G.φ.length
  nd : ∀ (n m : Nat) (a : Addr), G.φ[n]? = some a → G.φ[m]? = some a → n = m
  ex : ∀ (n : Nat) (a : Addr), G.φ[n]? = some a → H a ≠ none
  nfz : ∀ b, Lv G μ b → ¬ G.Fz b
  fex : ∀ b, G.Fz b → H b ≠ none
  cell : ∀ (n : Nat) (c : Cell) (a : Addr), μ[n]? = some c → G.φ[n]? = some a → CellR K Ca G H c a

/-- what the data lean on stays -/
structure Stay (K : PySem.W.Frag) (G : Gh) (H : Hp) (G' : Gh) (H' : Hp) : Prop where
  pre : ∀ (n : Nat) (a : Addr), G.φ[n]? = some a → G'.φ[n]? = some a
  fz : ∀ b, G.Fz b → G'.Fz b
  tup : ∀ b o, H b = some o → (∃ xs, o = .tup xs ∨ ∃ ob, o = .frz ob (.tup xs)) → H' b = some o
  lst : ∀ b o, H b = some o → G.Fz b → H' b = some o
section
variable {K : PySem.W.Frag} {Ca : Str → Addr} {G G' : Gh} {μ μ' : Sto} {H H' : Hp}
theorem Stay.sqT (s : Stay K G H G' H') {a : Addr} {vs : List V} (h : SqT K H a vs) : SqT K H' a vs := by
  rcases h with (h | ⟨o, h⟩) | h
  · exact .inl (.inl (s.tup _ _ h ⟨_, .inl rfl⟩))
  · exact .inl (.inr ⟨o, s.tup _ _ h ⟨_, .inr ⟨_, rfl⟩⟩⟩)
  · exact .inr h
theorem Stay.ls (s : Stay K G H G' H') {a : Addr} {vs : List V} (h : LsR G H a vs) : LsR G' H' a vs := by
  exact ⟨s.fz _ h.1, s.lst _ _ h.2 h.1⟩
mutual
theorem Stay.rep (s : Stay K G H G' H') : ∀ (d : D) (v : V), Rep K G H d v → Rep K G' H' d v
  | .non, _, h => by simpa only [Rep] using h
  | .bl _, _, h => by simpa only [Rep] using h
  | .int _, _, h => by simpa only [Rep] using h
  | .str _, _, h => by simpa only [Rep] using h
  | .tup ds, _, h => by
    simp only [Rep] at h ⊢
    obtain ⟨a, vs, e, q, r⟩ := h
    exact ⟨a, vs, e, s.sqT q, s.reps ds vs r⟩
  | .lst ds, _, h => by
    simp only [Rep] at h ⊢
    obtain ⟨a, vs, e, q, r⟩ := h
    exact ⟨a, vs, e, s.ls q, s.reps ds vs r⟩
  | .ref n, _, h => by
    simp only [Rep] at h ⊢
    obtain ⟨a, e, q⟩ := h
    exact ⟨a, e, s.pre _ _ q⟩
  | .src ns, _, h => by
    simp only [Rep] at h ⊢
    obtain ⟨a, e, q⟩ := h
    exact ⟨a, e, q.imp (fun q => ⟨s.fz _ q.1, q.2.imp (fun h => s.lst _ _ h q.1) fun ⟨o, h⟩ => ⟨o, s.lst _ _ h q.1⟩⟩) fun q => q⟩
theorem Stay.reps (s : Stay K G H G' H') : ∀ (ds : List D) (vs : List V), Reps K G H ds vs → Reps K G' H' ds vs
  | [], _, h => by simpa only [Reps] using h
  | d :: ds, _, h => by
    simp only [Reps] at h ⊢
    obtain ⟨v, r, e, h1, h2⟩ := h
    exact ⟨v, r, e, s.rep d v h1, s.reps ds r h2⟩
end
theorem Stay.kv (s : Stay K G H G' H') : ∀ (ps : List (Key × D)) (vs : List (Key × V)), KvR K G H ps vs → KvR K G' H' ps vs
  | [], _, h => h
  | _ :: ps, _, ⟨v, r, e, h1, h2⟩ => ⟨v, r, e, s.rep _ _ h1, s.kv ps r h2⟩
theorem Stay.fs (s : Stay K G H G' H') {fs : List (Str × D)} {gs : List (Str × V)} (h : FsR K G H fs gs) : FsR K G' H' fs gs := fun f =>
  ⟨fun d e => let ⟨v, h1, h2⟩ := (h f).1 d e; ⟨v, h1, s.rep _ _ h2⟩, (h f).2⟩

/-- cells hold no tuples -/
theorem Okk.mut (k : Okk K Ca G μ H) {b : Addr} (l : Lv G μ b) : ∃ o, H b = some o ∧ ((∃ xs, o = .lst xs) ∨ (∃ xs, o = .dK xs) ∨ ∃ C dx fs, o = .ins C dx fs) := by
  obtain ⟨n, c, h1, h2, h3⟩ := l
  have q := k.cell n c b h2 h1
  cases c with
  | dead => exact absurd rfl h3
  | lst ds => obtain ⟨vs, e, _⟩ := q; exact ⟨_, e, .inl ⟨_, rfl⟩⟩
  | dct kvs => obtain ⟨vs, e, _⟩ := q; exact ⟨_, e, .inr (.inl ⟨_, rfl⟩)⟩
  | ins C fs => obtain ⟨dx, gs, e, _⟩ := q; exact ⟨_, e, .inr (.inr ⟨_, _, _, rfl⟩)⟩
theorem Ext.stay (k : Okk K Ca G μ H) (e : Ext G μ H G' μ' H') : Stay K G H G' H' where
  pre := e.pre
  fz := e.fz
  tup := fun b o h t => e.keep b o h fun l => by
    obtain ⟨o', h', q⟩ := k.mut l
    rw [h] at h'; cases h'
    obtain ⟨xs, t⟩ := t
    rcases q with ⟨_, rfl⟩ | ⟨_, rfl⟩ | ⟨_, _, _, rfl⟩ <;> (rcases t with t | ⟨_, t⟩ <;> cases t)
  lst := fun b o h f => e.keep b o h fun l => k.nfz b l f
end

/-! ### slots -/
structure SlR (K : PySem.W.Frag) (G : Gh) (H H0 : Hp) (ρ : Env) (σ : St) : Prop where
  len : ρ.length = σ.length
  val : ∀ (i : Nat) (d : D), ρ[i]? = some (.val d) → ∃ v, σ[i]? = some (some v) ∧ Rep K G H d v
  own : ∀ (i : Nat) (ds : List D), ρ[i]? = some (.own ds) → ∃ a vs, σ[i]? = some (some (.ref a)) ∧ H a = some (.lst vs) ∧ Reps K G H ds vs ∧ ¬ G.Fz a ∧ (∀ n : Nat, G.φ[n]? ≠ some a) ∧ H0 a = none
  dis : ∀ (i j : Nat) (a : Addr) (ds es : List D), ρ[i]? = some (.own ds) → ρ[j]? = some (.own es) → σ[i]? = some (some (.ref a)) → σ[j]? = some (some (.ref a)) → i = j
/-- the frame's entry -/
structure Ent where
  G : Gh
  μ : Sto
  H : Hp
  /-- the anchor: what it leans on stays from there on -/
  Ga : Gh
  Ha : Hp
/-- a value that is held: as data, or as a slot's own list -/
def Hd (K : PySem.W.Frag) (G : Gh) (H : Hp) (ρ : Env) (σ : St) (d : D) (v : V) : Prop :=
  Rep K G H d v ∨ ∃ (i : Nat) (ds : List D), ρ[i]? = some (.own ds) ∧ σ[i]? = some (some v) ∧ d = .lst ds
structure Rl (K : PySem.W.Frag) (Ca : Str → Addr) (Z : Ent) (G : Gh) (μ : Sto) (ρ : Env) (hv : List (D × V)) (σ : St) (H : Hp) : Prop where
  ext : Ext Z.G Z.μ Z.H G μ H
  ok : Okk K Ca G μ H
  sl : SlR K G H Z.H ρ σ
  hv : ∀ p ∈ hv, Hd K G H ρ σ p.1 p.2
  anc : Stay K Z.Ga Z.Ha G H
theorem Stay.trans {K : PySem.W.Frag} {G G1 G2 : Gh} {H H1 H2 : Hp} (a : Stay K G H G1 H1) (b : Stay K G1 H1 G2 H2) : Stay K G H G2 H2 :=
  ⟨fun n x h => b.pre n x (a.pre n x h), fun x h => b.fz x (a.fz x h), fun x o h t => b.tup x o (a.tup x o h t) t, fun x o h f => b.lst x o (a.lst x o h f) (a.fz x f)⟩
theorem Stay.refl {K : PySem.W.Frag} (G : Gh) (H : Hp) : Stay K G H G H := ⟨fun _ _ h => h, fun _ h => h, fun _ _ h _ => h, fun _ _ h _ => h⟩
section
variable {K : PySem.W.Frag} {Ca : Str → Addr} {Z : Ent} {G G' : Gh} {μ μ' : Sto} {ρ : Env} {hv : List (D × V)} {σ : St} {H H' : Hp}
/-- a slot's list is nobody's cell -/
theorem SlR.nlv {H0 : Hp} (s : SlR K G H H0 ρ σ) {i : Nat} {ds : List D} {a : Addr} (h : ρ[i]? = some (.own ds)) (e : σ[i]? = some (some (.ref a))) : ¬ Lv G μ a := fun ⟨n, _, h1, _⟩ => by
  obtain ⟨a', _, e', _, _, _, q, _⟩ := s.own i ds h
  rw [e] at e'; cases e'
  exact q n h1
theorem SlR.step {H0 : Hp} (k : Okk K Ca G μ H) (s : SlR K G H H0 ρ σ) (e : Ext G μ H G' μ' H') : SlR K G' H' H0 ρ σ where
  len := s.len
  val := fun i d h => let ⟨v, h1, h2⟩ := s.val i d h; ⟨v, h1, (e.stay k).rep _ _ h2⟩
  own := fun i ds h => by
    obtain ⟨a, vs, h1, h2, h3, h4, h5, h6⟩ := s.own i ds h
    have n : ¬ Lv G μ a := fun ⟨n, _, q, _⟩ => h5 n q
    refine ⟨a, vs, h1, e.keep a _ h2 n, (e.stay k).reps _ _ h3, fun f => ?_, fun n' q => ?_, h6⟩
    · rcases e.fzn a f with f | f | f
      · exact h4 f
      · rw [f] at h2; cases h2
      · exact n f
    · rcases e.new n' a q with q | q
      · exact h5 n' q
      · rw [q] at h2; cases h2
  dis := s.dis
theorem Hd.step {d : D} {v : V} (k : Okk K Ca G μ H) (h : Hd K G H ρ σ d v) (e : Ext G μ H G' μ' H') : Hd K G' H' ρ σ d v := h.imp (fun h => (e.stay k).rep _ _ h) fun h => h
/-- behind a part of the code -/
theorem Rl.step (r : Rl K Ca Z G μ ρ hv σ H) (e : Ext G μ H G' μ' H') (k : Okk K Ca G' μ' H') : Rl K Ca Z G' μ' ρ hv σ H' :=
  ⟨r.ext.trans e, k, r.sl.step r.ok e, fun p hp => (r.hv p hp).step r.ok e, r.anc.trans (e.stay r.ok)⟩
theorem Rl.hold (r : Rl K Ca Z G μ ρ hv σ H) {d : D} {v : V} (h : Hd K G H ρ σ d v) : Rl K Ca Z G μ ρ ((d, v) :: hv) σ H :=
  ⟨r.ext, r.ok, r.sl, fun p hp => by
    rcases List.mem_cons.mp hp with rfl | hp
    · exact h
    · exact r.hv p hp, r.anc⟩
theorem Rl.drop (r : Rl K Ca Z G μ ρ hv σ H) {hw : List (D × V)} (h : ∀ p ∈ hw, p ∈ hv) : Rl K Ca Z G μ ρ hw σ H := ⟨r.ext, r.ok, r.sl, fun p hp => r.hv p (h p hp), r.anc⟩

/-! ### a new object -/
theorem Ext.fresh (k : Okk K Ca G μ H) {p : Addr} {o : HO} (hp : H p = none) : Ext G μ H G μ (upd H p o) where
  pre := fun _ _ h => h
  new := fun _ _ h => .inl h
  fz := fun _ h => h
  fzn := fun _ h => .inl h
  keep := fun b u h _ => by rw [upd_ne (ne_of_none h hp)]; exact h
  old := fun b h => by
    by_cases e : b = p
    · rw [e]; exact hp
    · rw [upd_ne e] at h; exact h
  lv := fun _ h => .inl h
theorem CellR.step {c : Cell} {a : Addr} (st : Stay K G H G' H') (h : CellR K Ca G H c a) (e : ∀ o, H a = some o → H' a = some o) : CellR K Ca G' H' c a := by
  cases c with
  | dead => trivial
  | lst ds => obtain ⟨vs, h1, h2⟩ := h; exact ⟨vs, e _ h1, st.reps _ _ h2⟩
  | dct kvs => obtain ⟨vs, h1, h2⟩ := h; exact ⟨vs, e _ h1, st.kv _ _ h2⟩
  | ins C fs => obtain ⟨dx, gs, h1, h3, h2⟩ := h; exact ⟨dx, gs, e _ h1, h3, st.fs h2⟩
theorem Okk.fresh (k : Okk K Ca G μ H) {p : Addr} {o : HO} (hp : H p = none) : Okk K Ca G μ (upd H p o) where
  len := k.len
  nd := k.nd
  ex := fun n a h z => k.ex n a h ((Ext.fresh k hp).old a z)
  nfz := k.nfz
  fex := fun b h z => k.fex b h ((Ext.fresh k hp).old b z)
  cell := fun n c a h1 h2 => (k.cell n c a h1 h2).step ((Ext.fresh k hp).stay k) fun u h => by rw [upd_ne (ne_of_none h hp)]; exact h
/-- an object of the call's own is frozen -/
theorem Ext.freeze (k : Okk K Ca G μ H) {p : Addr} : (H p = none ∨ True) → Ext G μ H G μ H := fun _ => Ext.refl _ _ _
abbrev Gh.frz (G : Gh) (a : Addr) : Gh := ⟨G.φ, fun b => G.Fz b ∨ b = a⟩
end
end J
/-! list(reversed(a list)), list(a text). -/
namespace J
open PySem L2 PySem.Spec PyProof.Rows RT
section
variable {prog : Program} {w : World} {A : Around} {E : Value → Shared → Prop} {s : Shared}
theorem list_init_rev {R : Result → Shared → Prop} (h0 : A.handled = none) {it l S : Addr} {xs : Array Value} (ri : s.heap.IsRevIter it l ((xs.size : Int) - 1)) (il : s.heap.IsList l xs) (li : l ≠ it) (n0 : xs.size ≤ sizeLine)
    (si : S ≠ it) (sl : S ≠ l) (atS : s.heap.get? S = some { cls := .type "list", data := .seq #[] })
    (fin : ∀ (g' : Heap) (k' : Nat) (acc : Array Value) (c' : Nat), (∀ b o, b ≠ S → b ≠ it → s.heap.get? b = some o → g'.get? b = some o) → g'.get? S = some { cls := .type "list", dict := none, data := .seq acc c', slots := #[] } →
      ItemsOf (fun i v => xs[xs.size - 1 - i]? = some v) acc xs.size → R (.ok (.ret .none)) { s with heap := g', toks := k' }) :
    wpAny (model prog w) A.in1 (Builtin.«list.__init__» ⟨[.ref S, .ref it], []⟩)
      (fun z s' => match z with | .done f => R (.ok f) s' | .again c' => c'.quiet = true ∧ codeAny (model prog w) A c' R s') (fun e s' => R (.error e) s') s := by
  show wpAny _ _ (do let old ← Builtin.List.listItems (.ref S); Builtin.List.listUpdate (.ref S) (fun _ => #[]); letGo old.toList.reverse; Builtin.List.listExtendWith (.ref S) (.ref it) .none) _ _ s
  refine wpAny_bind ?_; unfold Builtin.List.listItems
  refine wpAny_bind (wpAny_seqItems atS rfl (wpAny_pure ?_))
  show wpAny _ _ (updateSeq S (fun _ => #[]) >>= fun _ => letGo (#[] : Array Value).toList.reverse >>= fun _ => Builtin.List.listExtendWith (.ref S) (.ref it) .none) _ _ s
  refine wpAny_bind (wpAny_updateSeq atS rfl ?_); refine wpAny_bind (wpAny_letGo ?_)
  have at2 := Heap.get?_update_self (Obj.mapSeq (fun _ => (#[] : Array Value))) atS rfl
  have oth : ∀ b o, b ≠ S → s.heap.get? b = some o → (s.heap.update S (Obj.mapSeq (fun _ => (#[] : Array Value)))).get? b = some o := fun b o hb e => (Heap.get?_update_other _ _ (Ne.symm hb)).trans e
  generalize (s.heap.update S (Obj.mapSeq (fun _ => (#[] : Array Value)))) = g1 at at2 oth ⊢
  have ri1 : g1.IsRevIter it l ((xs.size : Int) - 1) := ri.at fun o e => oth _ o (Ne.symm si) e
  have il1 : g1.IsList l xs := by
    obtain ⟨o, ho, hc, n, hd⟩ := il
    exact ⟨o, oth _ _ (Ne.symm sl) ho, hc, n, hd⟩
  have W := (Walks.listRev (prog := prog) (w := w) (A := A.in1) h0 it l li xs).toS
  have hSf : S ∉ [it, l] := by simp only [List.mem_cons, List.not_mem_nil, or_false, not_or]; exact ⟨si, sl⟩
  have hT : ({ s with heap := g1 } : Shared).TypeIs (.ref it) "list_reverseiterator" := Heap.IsRevIter.typeIs (s := { s with heap := g1 }) ri1
  have same : Builtin.List.listSameRef (.ref S) (.ref it) = false := by simp [Builtin.List.listSameRef, si]
  unfold Builtin.List.listExtendWith
  refine wpAny_bind (wpAny_typeOf hT ?_); rw [if_neg (by rw [same]; decide)]
  refine wpAny_bind (wpAny_pyIter_revIter (s := { s with heap := g1 }) ri1 ?_); refine wpAny_bind (wpAny_holding ?_)
  unfold Builtin.List.listLengthHint
  refine wpAny_bind (wpAny_specialOf hT nolen_lri ?_)
  show wpAny _ _ (specialOf (Value.ref it) (Str.ofString "__length_hint__") >>= _) _ _ _
  refine wpAny_bind (wpAny_specialOf hT hint_lri ?_)
  generalize hid : ("list_reverseiterator.__length_hint__" : String) = id0
  wp_delta
  rw [show splitId id0 = some ("list_reverseiterator", "__length_hint__") from by subst hid; decide +kernel]; subst hid
  refine wpAny_bind (wpAny_isInstance (b := true) hT (by rw [isSubtype_type]; kernel_rfl) ?_)
  refine wpAny_pure ?_; rw [if_neg (by decide)]
  have e0 : ((xs.size : Nat) : Int) - 1 - ((0 : Nat) : Int) = (xs.size : Int) - 1 := by omega
  refine wpAny_pure ⟨plainId_quiet F.plain_extend_loop _, codeAny_extend_loopS W n0 _ hSf _ xs.size 0 _ _ _ rfl (Nat.zero_le _) ⟨Nat.zero_le _, by rw [e0]; exact ri1, il1⟩ at2 (ItemsOf.nil _) fun s' acc c' hm hS' hacc => ?_⟩
  rw [Moved.eq_with hm]
  refine fin s'.heap s'.toks acc c' (fun b ob hb hi e => hm.heap b ob (fun hmem => ?_) (oth _ _ hb e)) hS' hacc
  rcases List.mem_cons.mp hmem with e' | hmem
  · exact hb e'
  · exact hi (List.mem_singleton.mp hmem)
theorem call_list_rev {it l : Addr} {xs : Array Value} {Q : Value → Shared → Prop} (h0 : A.handled = none) (ri : s.heap.IsRevIter it l ((xs.size : Int) - 1)) (il : s.heap.IsList l xs) (li : l ≠ it) (n0 : xs.size ≤ sizeLine)
    (fin : ∀ (g' : Heap) (k' : Nat) (acc : Array Value) (c' : Nat), (∀ b o, b ≠ it → s.heap.get? b = some o → g'.get? b = some o) → g'.get? s.heap.objs.size = some { cls := .type "list", dict := none, data := .seq acc c', slots := #[] } →
      ItemsOf (fun i v => xs[xs.size - 1 - i]? = some v) acc xs.size → Q (.ref s.heap.objs.size) { s with heap := g', toks := k' }) : wpAny (model prog w) A (call (.type "list") [.ref it]) Q E s := by
  refine callType_codes (Q₁ := fun ob t => ob = .ref s.heap.objs.size ∧ t = { s with heap := s.heap.push { cls := .type "list", data := .seq #[] } }) F.called_list (F.typeCall_list_1 _) F.entry_list_init (code_list_new _ ⟨rfl, rfl⟩) fun ob t ht => ?_
  obtain ⟨rfl, rfl⟩ := ht
  have atS : (s.heap.push { cls := .type "list", data := .seq #[] }).get? s.heap.objs.size = some { cls := .type "list", data := .seq #[] } := Heap.get?_push_size _ rfl
  obtain ⟨oi, hoi, _⟩ := id ri
  obtain ⟨ol, hol, _⟩ := id il
  refine ⟨⟨_, atS, rfl⟩, F.args_list_init_2 _ _, list_init_rev (A := A.in1) (l := l) (xs := xs) h0 (ri.at fun o e => Heap.get?_push_of_some _ e) (il.push _) li n0 (Nat.ne_of_gt (Heap.lt_size hoi)) (Nat.ne_of_gt (Heap.lt_size hol)) atS fun g' k' acc c' hk hS' hacc => ?_⟩
  exact ⟨rfl, fin g' k' acc c' (fun b o hb e => hk b o (Nat.ne_of_lt (Heap.lt_size e)) hb (Heap.get?_push_of_some _ e)) hS' hacc⟩
end
section
variable {X : Cx}
/-- list(reversed(x)), x a list: a new list -/
def tLstRev (K : PySem.W.Frag) (te : TE) : TE := fun σ H Q => te σ H fun v H1 => ∃ (a : Addr) (xs : List V), v = .ref a ∧ SqL K H1 a xs ∧ ∀ q, H1 q = none → Q (.ref q) (upd H1 q (.lst xs.reverse))
theorem pe_lstRev {e : Expr} {te : TE} {p p2 pos pos2 : Pos} (hc : X.calm = true) (hg : Gl X "list") (hm : X.mg "list" = none) (hg2 : Gl X "reversed") (hm2 : X.mg "reversed" = none) (he : PE X e te)
    (n1 : starEach [e] X.env = (false, eval e X.env) :: starEach [] X.env)
    (n2 : starEach [.Call (.Name "reversed" p2) [e] [] pos2] X.env = (false, eval (.Call (.Name "reversed" p2) [e] [] pos2) X.env) :: starEach [] X.env) :
    PE X (.Call (.Name "list" p) [.Call (.Name "reversed" p2) [e] [] pos2] [] pos) (tLstRev X.K te) := by
  refine ⟨fun pins s σ H Q I h => ?_⟩
  refine Call_ (ld_blt I hg hm boot_list (PyProof.Rows.callWith_type1 (args_cons (Call_ (ld_blt I hg2 hm2 PyProof.Rows.boot_reversed (PyProof.Rows.callWith_type1 (args_cons (thn (he.run pins s σ H _ I h) fun u s1 ⟨v, H1, I1, r1, q1⟩ => args_nil ?_) n1) n1 rfl))) n2) n2 rfl))
  obtain ⟨a, xs, ev, hq, q⟩ := q1
  subst ev; obtain rfl : u = Value.ref a := r1
  obtain ⟨its, rv, p', hz⟩ := I1.list hq
  refine call_reversed_list p'.isList (args_nil ?_)
  have I2 : Inv X pins σ H1 { s1 with heap := s1.heap.push (revObj a ((its.toArray.size : Int) - 1)) } := I1.kept (t' := s1.toks) fun _ _ e => Heap.get?_push_of_some _ e
  obtain ⟨f0, f1, f2, f3, f4, f5⟩ := I1.fpOk (H' := H1) (b := s1.heap.objs.size) (Nat.le_refl _) (I1.hok.fresh (Nat.le_refl _))
  have hl := p'.isList; obtain ⟨ol, hol, _⟩ := id hl
  have hne : a ≠ s1.heap.objs.size := Nat.ne_of_lt (Heap.lt_size hol)
  have hn : its.toArray.size ≤ sizeLine := by rw [List.size_toArray, ← rv.length]; exact hz
  refine call_list_rev (s := { s1 with heap := s1.heap.push (revObj a ((its.toArray.size : Int) - 1)) }) (I1.ok.hd hc) ⟨_, Heap.get?_push_size _ rfl, rfl, rfl⟩ (hl.push _) hne hn fun g' tk acc c' hk e' hi => ?_
  have f : FpOk X pins H1 s1.heap.objs.size := ⟨f0, f1, f2, f3, f4, f5⟩
  refine ⟨.ref _, upd H1 (s1.heap.push (revObj a ((its.toArray.size : Int) - 1))).objs.size (.lst xs.reverse), ?_, rfl, q _ (I2.hok.fresh (Nat.le_refl _))⟩
  exact Inv.turnedNew (ch := [s1.heap.objs.size]) I2 (fun b o hb e => hk b o (fun z => hb (by rw [z]; exact List.mem_singleton.mpr rfl)) e) (fun b hb => by rw [List.mem_singleton.mp hb]; exact f) (Nat.le_refl _)
    (show ObjOk X.prog X.w _ _ _ (.lst xs.reverse) from ⟨by rw [List.length_reverse]; exact hz, acc.toList, c', vals_rev rv hi, by rw [Array.toArray_toList]; exact e'⟩)
/-- list(a text): a new list of its signs -/
def signsV (x : Str) : List V := x.cps.toList.map fun c => V.str ⟨#[c]⟩
theorem vals_signs {x : Str} {acc : Array Value} (h : ItemsOf (SignAt x) acc x.cps.size) : Vals (signsV x) acc.toList := by
  refine vals_of_at (by rw [signsV, List.length_map, Array.length_toList, Array.length_toList, h.1]) fun j v u e1 e2 => ?_
  obtain ⟨c, t, e3, rfl⟩ := h.2 j u (by rw [← Array.getElem?_toList]; exact e2)
  rw [signsV, List.getElem?_map, Array.getElem?_toList, e3] at e1
  cases e1
  exact ⟨t, rfl⟩
theorem call_list_txt (hc : X.calm = true) : CallR X (.type "list") (fun xs H Q => ∃ x, xs = [.str x] ∧ x.length ≤ sizeLine ∧ ∀ q, H q = none → Q (.ref q) (upd H q (.lst (signsV x)))) := by
  intro pins s σ H xs us Q I r h
  obtain ⟨x, rfl, hz, q⟩ := h
  obtain ⟨u, rfl, t, rfl⟩ := vals1 r
  refine call_list_str (I.ok.hd hc) x t (fun h' tk acc c' hk e' hi => ?_) hz
  exact ⟨.ref s.heap.objs.size, upd H s.heap.objs.size (.lst (signsV x)), I.laid hk (Nat.le_refl _) (show ObjOk X.prog X.w _ _ _ (.lst (signsV x)) from ⟨by rw [signsV, List.length_map, Array.length_toList]; exact hz, acc.toList, c', vals_signs hi, by rw [Array.toArray_toList]; exact e'⟩), rfl, q _ (I.hok.fresh (Nat.le_refl _))⟩
end
end J
/-! a tuple so many times, once or not at all; a tuple backwards. -/
namespace J
open PySem L2 PySem.Spec PyProof.Rows
theorem tuple_mul1 (l : Addr) (items : Array Value) (n : Nat) (dd : Option Addr) (sl : Array (Option Value)) (u : Tok) :
    Meets (Builtin.«tuple.__mul__» ⟨[.ref l, .int 1 u], []⟩) (fun _ R s => s.heap.get? l = some { cls := .type "tuple", dict := dd, data := .seq items n, slots := sl } ∧
      R (.ok (.ret (Value.ref l))) s) :=
  .of_wp fun prog w A R s h => by
    obtain ⟨hp, g, d, tk, os⟩ := s
    obtain ⟨hl, h⟩ := h
    have f1 := AutoSeq1.idx_int
    wp_walk using wpAny_loadPart' hl
    repeat (first
      | (refine wpAny_ite_true (decide_eq_true (by rw [Bool.or_true])) ?_; wp_walk using wpAny_loadPart' hl)
      | (refine wpAny_ite_true (by rw [Bool.or_true]; rfl) ?_; wp_walk using wpAny_loadPart' hl))
    exact ⟨_, rfl, h⟩
theorem tuple_mul0 (l : Addr) (items : Array Value) (n : Nat) (dd : Option Addr) (sl : Array (Option Value)) (u : Tok) (c1 : items.isEmpty = false) :
    Meets (Builtin.«tuple.__mul__» ⟨[.ref l, .int 0 u], []⟩) (fun _ R s => s.heap.get? l = some { cls := .type "tuple", dict := dd, data := .seq items n, slots := sl } ∧
      R (.ok (.ret (Value.ref s.heap.objs.size))) { s with heap := s.heap.push { cls := Value.type "tuple", data := Data.seq #[] } }) :=
  .of_wp fun prog w A R s h => by
    obtain ⟨hp, g, d, tk, os⟩ := s
    obtain ⟨hl, h⟩ := h
    have f1 := AutoSeq1.idx_int
    have hsz : sizeOk (.seq (#[] : Array Value)) := by show (#[] : Array Value).size ≤ sizeLine; exact Nat.zero_le _
    wp_walk using wpAny_loadPart' hl
    repeat (first
      | (refine wpAny_ite_false (by rw [c1]; decide) ?_; wp_walk using wpAny_loadPart' hl)
      | (refine wpAny_ite_true (by rw [Bool.true_or]; rfl) ?_; wp_walk using wpAny_loadPart' hl))
    exact ⟨_, rfl, h⟩
variable {X : Cx}
theorem op_repT1 : OpR X (binaryOp .Mult) (fun x y H Q => ∃ l xs, x = .ref l ∧ y = .int 1 ∧ SqT X.K H l xs ∧ Q (.ref l) H) := by
  intro pins s σ H x y v u Q I rx ry h
  obtain ⟨l, xs, rfl, rfl, hT, q⟩ := h
  cases rx
  obtain ⟨t, rfl⟩ := ry
  obtain ⟨its, r, ⟨⟨cls, dd, data, sl⟩, ho, hc, n, hd⟩, hs⟩ := I.tuple hT
  simp only at hc hd
  subst hc hd
  exact wpAny_binaryOp_repeat_ref (T := "tuple") (U := "int") (by decide) ⟨_, ho, rfl⟩ (fun s' => typeIs_int s' 1 t) noFill_tuple_mul F.fills_int_mul F.slot_int_rmul repeat_tuple F.slot_int_index.lookup
    (call_meets F.slot_int_rmul (typeIs_int s 1 t) F.entry_int_rmul (F.args_int_rmul_2 _ _) (int_rmul_tuple 1 t l its.toArray n dd sl)
      ⟨ho, rfl, ⟨_, ho, rfl⟩, call_meets F.slot_tuple_mul ⟨_, ho, rfl⟩ F.entry_tuple_mul (F.args_tuple_mul_2 _ _) (tuple_mul1 l its.toArray n dd sl t) ⟨ho, ⟨.ref l, H, I, rfl, q⟩⟩⟩)
theorem op_repT0 : OpR X (binaryOp .Mult) (fun x y H Q => ∃ l xs, x = .ref l ∧ y = .int 0 ∧ SqT X.K H l xs ∧ xs ≠ [] ∧ ∀ p, H p = none → Q (.ref p) (upd H p (.tup []))) := by
  intro pins s σ H x y v u Q I rx ry h
  obtain ⟨l, xs, rfl, rfl, hT, hne, q⟩ := h
  cases rx
  obtain ⟨t, rfl⟩ := ry
  obtain ⟨its, r, ⟨⟨cls, dd, data, sl⟩, ho, hc, n, hd⟩, hs⟩ := I.tuple hT
  simp only at hc hd
  subst hc hd
  have hle : its.length = xs.length := r.length.symm
  have hn : its ≠ [] := fun e => hne (by
    rw [e] at hle
    exact List.eq_nil_of_length_eq_zero hle.symm)
  have hi : its.toArray.isEmpty = false := by
    cases its with
    | nil => exact absurd rfl hn
    | cons a b => rfl
  refine wpAny_binaryOp_repeat_ref (T := "tuple") (U := "int") (by decide) ⟨_, ho, rfl⟩ (fun s' => typeIs_int s' 0 t) noFill_tuple_mul F.fills_int_mul F.slot_int_rmul repeat_tuple F.slot_int_index.lookup
    (call_meets F.slot_int_rmul (typeIs_int s 0 t) F.entry_int_rmul (F.args_int_rmul_2 _ _) (int_rmul_tuple 0 t l its.toArray n dd sl)
      ⟨ho, rfl, ⟨_, ho, rfl⟩, call_meets F.slot_tuple_mul ⟨_, ho, rfl⟩ F.entry_tuple_mul (F.args_tuple_mul_2 _ _) (tuple_mul0 l its.toArray n dd sl t hi) ⟨ho, ?_⟩⟩)
  refine ⟨.ref s.heap.objs.size, _, I.laid (t' := s.toks) (o := .tup []) (fun b ob q => Heap.get?_push_of_some _ q) (Nat.le_refl _) ?_, rfl, q _ (I.hok.fresh (Nat.le_refl _))⟩
  exact ⟨Nat.zero_le _, [], .nil, IsTup.new _ _⟩
/-! ### t[::-1], t[-2::-1] -/
theorem back_places (n : Nat) (cut : Bool) : Builtin.Slice.sliceAdjust (if cut then some (-2) else none) none (-1) (n : Int) = ((if cut then max ((n : Int) - 2) (-1) else (n : Int) - 1), -1) := by
  unfold Builtin.Slice.sliceAdjust
  have h1 : ((-1 : Int) < 0) := by omega
  cases cut
  · simp only [h1, if_true, Bool.false_eq_true, if_false]
  · simp only [h1, if_true]
    refine Prod.ext ?_ rfl
    show (if (-2 : Int) < 0 then max (-2 + (n : Int)) (-1) else min (-2) ((n : Int) - 1)) = _
    rw [if_pos (by omega)]
    omega
def backN (n : Nat) (cut : Bool) : Nat := if cut then n - 1 else n
theorem back_many (n : Nat) (cut : Bool) : Builtin.Slice.slicePlaces (if cut then max ((n : Int) - 2) (-1) else (n : Int) - 1) (-1) (-1) = backN n cut := by
  unfold Builtin.Slice.slicePlaces backN
  have h1 : ¬ ((-1 : Int) > 0) := by omega
  simp only [h1, if_false, Int.neg_neg, Int.ediv_one]
  cases cut <;> simp only [Bool.false_eq_true, if_true, if_false] <;> split <;> omega
theorem back_pick (xs : Array Value) (cut : Bool) : ((List.range (backN xs.size cut)).filterMap fun (m : Nat) => xs[((if cut then max ((xs.size : Int) - 2) (-1) else (xs.size : Int) - 1) + (m : Int) * (-1)).toNat]?).toArray = (backL xs.toList cut).toArray := by
  congr 1
  have key : ∀ (ys : List Value) (k : Nat) (f : Nat → Option Value), k = ys.length → (∀ m, m < k → f m = ys.reverse[m]?) → (List.range k).filterMap f = ys.reverse := by
    intro ys k f hk hf
    have cg : ∀ (L : List Nat), (∀ m ∈ L, m < k) → L.filterMap f = L.filterMap fun m => ys.reverse[m]? := by
      intro L
      induction L with
      | nil => intro _; rfl
      | cons a r ih =>
        intro h
        simp only [List.filterMap_cons, hf a (h a List.mem_cons_self), ih fun m hm => h m (List.mem_cons_of_mem _ hm)]
    have e := cg (List.range k) fun m hm => List.mem_range.mp hm
    rw [e, hk, ← List.length_reverse]
    apply List.ext_getElem?
    intro i
    generalize ys.reverse = zs
    have : ∀ (zs : List Value), (List.range zs.length).filterMap (fun m => zs[m]?) = zs := by
      intro zs
      induction zs with
      | nil => rfl
      | cons z r ih =>
        rw [List.length_cons, List.range_succ_eq_map, List.filterMap_cons]
        simp only [List.getElem?_cons_zero, List.filterMap_map]
        congr 1
    rw [this]
  unfold backL backN
  cases cut with
  | false =>
    simp only [Bool.false_eq_true, if_false]
    refine key _ _ _ (by simp) fun m hm => ?_
    rw [List.getElem?_reverse (by simpa using hm), Array.getElem?_toList]
    congr 1
    simp; omega
  | true =>
    simp only [if_true]
    refine key _ _ _ (by simp) fun m hm => ?_
    rw [List.getElem?_reverse (by simpa using hm), List.length_dropLast, Array.length_toList]
    have h1 : (max ((xs.size : Int) - 2) (-1) + (m : Int) * (-1)).toNat = xs.size - 1 - 1 - m := by omega
    rw [h1, List.dropLast_eq_take, List.getElem?_take, Array.length_toList, if_pos (by omega), Array.getElem?_toList]
section
variable {prog : Program} {w : World} {A : Around} {E : Value → Shared → Prop} {s : Shared}
theorem sliceApplied_back {sl : Addr} {vl vu vs : Value} {cut : Bool} {n : Nat} {Q : Int × Int × Nat → Shared → Prop} (hs : s.heap.IsSliceOf sl vl vu vs) (pl : IsPart vl (if cut then some (-2) else none)) (pu : IsPart vu none) (ps : IsPart vs (some (-1)))
    (h : Q ((if cut then max ((n : Int) - 2) (-1) else (n : Int) - 1), -1, backN n cut) s) : wpAny (model prog w) A (Builtin.Slice.sliceApplied (.ref sl) (pure (n : Int))) Q E s := by
  obtain ⟨os, hos, hcs, hds⟩ := id hs
  unfold Builtin.Slice.sliceApplied Builtin.Slice.sliceFields
  refine wpAny_bind (wpAny_bind (wpAny_field hos hds (x := vl) rfl (wpAny_bind (wpAny_field hos hds (x := vu) rfl (wpAny_bind (wpAny_field hos hds (x := vs) rfl (wpAny_pure ?_)))))))
  refine wpAny_bind (HT.slicePart_ ps ?_)
  show wpAny _ _ (if ((-1 : Int) == 0) = true then _ else _) _ _ s
  rw [if_neg (by decide)]
  refine wpAny_bind (HT.slicePart_ pl (wpAny_bind (HT.slicePart_ pu (wpAny_bind (wpAny_pure ?_)))))
  show wpAny _ _ (match Builtin.Slice.sliceAdjust (if cut then some (-2) else none) none (-1) (n : Int) with | (lo, hi) => pure (lo, (-1 : Int), Builtin.Slice.slicePlaces lo hi (-1))) _ _ s
  rw [back_places]
  show wpAny _ _ (pure ((if cut then max ((n : Int) - 2) (-1) else (n : Int) - 1), (-1 : Int), Builtin.Slice.slicePlaces (if cut then max ((n : Int) - 2) (-1) else (n : Int) - 1) (-1) (-1))) _ _ s
  rw [back_many]
  exact wpAny_pure h
theorem getItem_tuple_back {t sl : Addr} {items : Array Value} {vl vu vs : Value} {cut : Bool} {Q : Value → Shared → Prop} (ht : IsTup s.heap t items) (hs : s.heap.IsSliceOf sl vl vu vs) (pl : IsPart vl (if cut then some (-2) else none)) (pu : IsPart vu none) (ps : IsPart vs (some (-1)))
    (h : Q (.ref s.heap.objs.size) { s with heap := s.heap.push { cls := .type "tuple", data := .seq (backL items.toList cut).toArray } })
    (hsz : items.size ≤ sizeLine) : wpAny (model prog w) A (getItem (.ref t) (.ref sl)) Q E s := by
  have htake : sizeOk (.seq (backL items.toList cut).toArray) := by
    show (backL items.toList cut).toArray.size ≤ sizeLine
    rw [List.size_toArray]
    unfold backL
    cases cut <;> simp <;> omega
  obtain ⟨os, hos, hcs, hds⟩ := id hs
  have hTs : s.TypeIs (.ref sl) "slice" := ⟨os, hos, hcs⟩
  unfold getItem
  try with_reducible refine wpAny_holding ?_
  first | refine wpAny_bind (wpAny_pure ?_) | skip
  refine wpAny_bind (wpAny_sequenceKey ht.typeIs (by decide) ?_)
  refine wpAny_bind (wpAny_callSpecial?_slot (name := Str.ofString "__getitem__") ht.typeIs PyProof.Rows.slot_tuple_getitem
    (wpAny_call_entry PyProof.Rows.slot_tuple_getitem ht.typeIs entry_tuple_getitem ?_ (args_tuple_getitem _ _)))
  show wpAny _ _ (Builtin.Tuple.tupleItemsOf (.ref t) >>= _) _ _ s
  refine wpAny_bind (tupleItemsOf_ ht ?_)
  refine wpAny_bind (wpAny_typeOf hTs ?_)
  rw [if_pos (by decide)]
  refine wpAny_bind (sliceApplied_back hs pl pu ps ?_)
  show wpAny _ _ (if ((if cut then max ((items.size : Int) - 2) (-1) else (items.size : Int) - 1) == 0 && (-1 : Int) == 1 && backN items.size cut == items.size) = true then _ else _) _ _ s
  rw [if_neg (by simp), back_pick]
  first
    | exact wpAny_bind (m := Builtin.Tuple.tupleExact _) (wpAny_newObj_type (wpAny_pure ⟨_, rfl, wpAny_pure h⟩) htake)
    | exact wpAny_bind (m := Builtin.Tuple.tupleExact _) (wpAny_newObj_type (wpAny_bind (wpAny_pure (wpAny_pure ⟨_, rfl, wpAny_pure h⟩))) htake)
    | exact wpAny_bind (wpAny_bind (m := Builtin.Tuple.tupleExact _) (wpAny_newObj_type (wpAny_pure (wpAny_pure ⟨_, rfl, wpAny_pure h⟩)) htake))
    | exact wpAny_bind (wpAny_bind (m := Builtin.Tuple.tupleExact _) (wpAny_newObj_type (wpAny_pure ⟨_, rfl, wpAny_pure h⟩) htake))
end
theorem Vals.back {xs : List V} {vs : List Value} (h : Vals xs vs) (cut : Bool) : Vals (backL xs cut) (backL vs cut) := by
  unfold backL
  cases cut
  · exact h.reverse
  · simp only [if_true]
    have := h.take (xs.length - 1)
    rw [← List.dropLast_eq_take, h.length, ← List.dropLast_eq_take] at this
    exact this.reverse
def tBackT (K : PySem.W.Frag) (cut : Bool) (te : TE) : TE := fun σ H Q => te σ H fun x H1 => ∃ a xs, x = .ref a ∧ SqT K H1 a xs ∧ ∀ p, H1 p = none → Q (.ref p) (upd H1 p (.tup (backL xs cut)))
theorem pe_backT {e : Expr} {te : TE} {cut : Bool} {lo : Option Expr} {k : Nat} {p1 p2 p3 pos : Pos} (hlo : PO X lo (fun σ H Q => Q (if cut then some (-2) else none) H)) (he : PE X e te) :
    PE X (.Subscript e (.Slice lo none (some (.UnaryOp .USub (.Constant (.int 1) k p1) p2)) p3) pos) (tBackT X.K cut te) := by
  refine ⟨fun pins s σ H Q I h => ?_⟩
  refine Subscript_ (thn (he.run pins s σ H _ I h) fun v s1 ⟨x, H1, I1, r1, q1⟩ => ?_)
  obtain ⟨a, xs, ex, hx, q⟩ := q1
  subst ex
  cases r1
  have hst : PO X (some (.UnaryOp .USub (.Constant (.int 1) k p1) p2)) (tPart (tUn (rU fun i => .int (-i)) (tC (.int 1)))) := po_some (pe_un un_neg pe_int)
  refine wpAny_Slice (thn (hlo.run pins s1 σ H1 (fun o H2 => o = (if cut then some (-2) else none) ∧ H2 = H1) I1 ⟨rfl, rfl⟩) fun vl s2 ⟨l, H2, I2, pl, el, e2⟩ => ?_)
  subst el e2
  refine thn (po_none.run pins s2 σ H2 (fun o H3 => o = none ∧ H3 = H2) I2 ⟨rfl, rfl⟩) fun vu s3 ⟨u, H3, I3, pu, eu, e3⟩ => ?_
  subst eu e3
  refine thn (hst.run pins s3 σ H3 (fun o H4 => o = some (-1) ∧ H4 = H3) I3 ⟨1, rfl, -1, rfl, rfl, rfl⟩) fun vs s4 ⟨o, H4, I4, ps, eo, e4⟩ => ?_
  subst eo e4
  have I5 : Inv X pins σ H4 { s4 with heap := s4.heap.push { cls := .type "slice", data := .fields #[vl, vu, vs] } } := I4.kept (t' := s4.toks) fun b ob q => Heap.get?_push_of_some _ q
  obtain ⟨its, r, ht, hz⟩ := I5.tuple hx
  have hlen := r.length
  show wpAny (model X.prog X.w) X.A (subscriptTail e (.Slice lo none (some (.UnaryOp .USub (.Constant (.int 1) k p1) p2)) p3) (.ref a) (.ref s4.heap.objs.size)) (EP X pins σ Q) X.xe { s4 with heap := s4.heap.push { cls := .type "slice", data := .fields #[vl, vu, vs] } }
  refine tail_any (ops := [.ref a, .ref s4.heap.objs.size]) ht.typeIs (PyProof.Rows.slot_tuple_getitem.lookup) ?_ (by with_unfolding_all rfl)
  refine getItem_tuple_back ht (Heap.IsSliceOf.new _ vl vu vs) pl pu ps ?_ (by rw [List.size_toArray]; omega)
  refine ⟨.ref _, _, I5.laid (t' := s4.toks) (o := .tup (backL xs cut)) (fun b ob q => Heap.get?_push_of_some _ q) (Nat.le_refl _) ?_, rfl, q _ (I5.hok.fresh (Nat.le_refl _))⟩
  refine ⟨?_, _, Vals.back r cut, IsTup.new _ _⟩
  unfold backL
  cases cut <;> simp <;> omega
end J
/-! functions entered where no guard is under way. -/
namespace J
open PySem L2 PySem.Spec PyProof.Rows
/-- no guard is under way -/
def NoG (A : Around) : Prop := A.guards = some []
structure FnG (P : Program) (w : World) (K : PySem.W.Frag) (mg : Str → Option Value) (base : Heap) (CX : CXT) (k : Nat) (f : Addr) (fd : FuncData) (ps : List Str) (sp : Sp) : Prop where
  ln : ∀ vs H Q E, sp vs H Q E → vs.length = ps.length
  go : ∀ (A : Around) (fs : List PySem.Env) (s : Shared) (H : Hp) (as : Args) (us : List Value) (vs : List V) (Q : VK) (E : XK), NoG A → Room k A → Env0 P w K mg base A fs s H → BindsTo s fd as (ps.zip us) → Vals vs us → sp vs H Q E →
    codeAny (model P w) A (.call (.ref f) as) (CR CX fs P w H s Q E) s
section
variable {X : Cx} {CX : CXT} {k : Nat} {f : Addr} {fd : FuncData} {ps : List Str} {sp : Sp} {E : St → XK} {x : Str} {p pos : Pos} {e : Expr} {es : List Expr} {t : TA}
theorem FnG.enter {pins : List (Addr × Obj)} {σ : St} {H : Hp} {s : Shared} {Q : VK} {us : List Value} {vs : List V} {E1 : XK} (F : FnG X.prog X.w X.K X.mg X.base CX k f fd ps sp) (g : NoG X.A) (room : Room k X.A) (b : Binds X.K fd ps []) (px : PassesAt CX X σ E1)
    (I : Inv X pins σ H s) (r : Vals vs us) (q : sp vs H Q E1) : wpAny (model X.prog X.w) X.A (call (.ref f) us) (EP X pins σ Q) X.xe s := by
  have n : (us ++ []).length = ps.length := by rw [List.append_nil, ← r.length]; exact F.ln _ _ _ _ q
  have bb := b s us I.kIn n
  rw [List.append_nil] at bb
  have go := F.go X.A X.stack s H ⟨us, []⟩ us vs Q E1 g room I.env0 bb r q
  refine wpAny_call (codeAny_mono go fun o s2 ho => ?_)
  match o, ho with
  | .error er, ho => exact px pins H s er s2 I ho
  | .ok (.ret u), ho => exact I.after ho
  | .ok .next, ho => exact ho.elim
  | .ok .brk, ho => exact ho.elim
  | .ok .cont, ho => exact ho.elim
def tCallG (sp : Sp) (E : St → XK) (t : TA) : TE := fun σ H Q => t σ H fun vs H1 => sp vs H1 Q (E σ)
theorem pe_callG (F : FnG X.prog X.w X.K X.mg X.base CX k f fd ps sp) (g : NoG X.A) (room : Room k X.A) (gl : Gl X x) (m : X.mg x = some (.ref f)) (kp : PySem.W.keepIn X.K (.ref f) = true) (b : Binds X.K fd ps []) (px : ∀ σ, PassesAt CX X σ (E σ))
    (args : PA X (e :: es) t) (nd : (x == ("__debug__" : Str)) = false) (st : starEach (e :: es) X.env = (false, eval e X.env) :: starEach es X.env) (pl : (backTo pos (starEach es X.env)).any (·.1) = false) :
    PE X (.Call (.Name x p) (e :: es) [] pos) (tCallG sp E t) where
  run := fun pins s σ H Q I q => wpAny_Call_Name_kw (ld_glob I gl m (PySem.W.callWith_K (h₀ := X.base) I.ok.mod.kin kp
    (thn (args.run pos pins s σ H _ I q) fun us s1 ⟨vs, H1, I1, r, q1⟩ => ⟨I1.kIn, F.enter g room b (px σ) I1 r q1⟩) st pl) nd)
theorem pe_callG0 (F : FnG X.prog X.w X.K X.mg X.base CX k f fd ps sp) (g : NoG X.A) (room : Room k X.A) (gl : Gl X x) (m : X.mg x = some (.ref f)) (kp : PySem.W.keepIn X.K (.ref f) = true) (b : Binds X.K fd ps []) (px : ∀ σ, PassesAt CX X σ (E σ))
    (nd : (x == ("__debug__" : Str)) = false) : PE X (.Call (.Name x p) [] [] pos) (tCallG sp E tNil) where
  run := fun pins s σ H Q I q => wpAny_Call_Name_kw (ld_glob I gl m (PySem.W.callWith_K0 I.kIn kp (F.enter (us := []) g room b (px σ) I .nil q)) nd)
end
section
variable {P : Program} {w : World} {K : PySem.W.Frag} {mg : Str → Option Value} {base : Heap} {x qual : Str} {params : Arguments} {body : List Stmt} {scope : Scope} {f : Addr} {fd : FuncData}
/-- a def, by its body -/
theorem fn_G {CX : CXT} {N ps : List Str} {k : Nat} {sp : Sp} {dvs : List V} {kws : List (Str × V)} (D : FunD K x qual params body scope dvs kws f fd) (S : FnScope N ps scope) (ln : ∀ vs H Q E, sp vs H Q E → vs.length = ps.length)
    (bd : ∀ (cdv : Value) (A : Around) (fs : List PySem.Env) (s : Shared) (H : Hp) (vs : List V) (Q : VK) (E : XK), NoG (A.deeper (envOfC qual scope s.heap.objs.size f cdv)) → Room k (A.deeper (envOfC qual scope s.heap.objs.size f cdv)) → sp vs H Q E →
      ∃ t, PSs (cxOf CX P w K mg base N qual scope f cdv A fs s H E) body t ∧ t { nx := fun _ H2 => Q .non H2, rt := Q } (L2.start N vs) H) : FnG P w K mg base CX (k + 1) f fd ps sp := by
  obtain ⟨oc, od, dV, kV, doc, pm, an, cdv, ct, osl, rfl, lk, hcd, -, -⟩ := D.ex
  refine ⟨ln, fun A fs s H as us vs Q E g room e0 b r q => ?_⟩
  have n := ln _ _ _ _ q
  have kin : K.In s.heap := e0.mod.kin.keeps fun b o z => (e0.bs b o z).1
  have cells : ∀ y ∈ ps.zip us, scope.names.lookup y.1 = some .local ∨ (scope.names.lookup y.1 = some .cell ∧ ((cellsFrom (s.heap.objs.size + 1) scope.names []).lookup y.1).isSome = true) := by
    rintro ⟨y, v⟩ hy
    exact (S.par y (List.of_mem_zip hy).1).imp id fun z => ⟨z, PySem.W.cellsFrom_some _ _ _ (.inl z)⟩
  have body := bd cdv A fs s H vs Q E (show A.guards = some [] from g) (room.deeper _) q
  obtain ⟨t, ht, tq⟩ := body
  refine codeAny_call_function room.depth (kin _ _ lk) rfl S.co S.gen rfl (PySem.W.codeRec_of kin hcd) (b _ _ _ _ (wpAny_newFunctionEnv_cells S.kind cells fun env he s1 inC => ?_))
  cases he
  have I := inv_start (CX := CX) (P := P) (w := w) (K := K) (mg := mg) (base := base) (N := N) (E := E) S room.hd e0 n r inC
  refine ⟨(e0.mod.nolimit.keeps fun b o z => (e0.bs b o z).1).keeps inC.toInCall.keep, codeAny_func (wpAny_mono (ht.run [] s1 _ H _ I tq) (fun fl s2 z => ?_) fun _ _ z => z)⟩
  match fl, z with
  | .ret u, ⟨v, σ2, H2, J2, rv, z⟩ => exact ⟨v, H2, J2.os, J2.bare, J2.base, J2.hok, rv, z⟩
  | .next, ⟨σ2, H2, J2, z⟩ => exact ⟨.non, H2, J2.os, J2.bare, J2.base, J2.hok, rfl, z⟩
  | .brk, ⟨_, _, _, z⟩ => exact z.elim
  | .cont, ⟨_, _, _, z⟩ => exact z.elim
end
end J
/-! enumerate over a tuple. -/
namespace J
open PySem L2 PySem.Spec PyProof.Rows
abbrev enumO (it : Addr) : Obj := { cls := .type "enumerate", data := .fields #[.none, .bool false, .ref it, rawInt 0, .none, .none] }
theorem newEnum {v : Value} {o : Obj} {H : Heap → Prop} (B : Begins v o H) : Meets (Builtin.«enumerate.__new__» ⟨[.type "enumerate", v], []⟩) (fun _ R s => H s.heap ∧ R (.ok (.ret (.ref (s.heap.push o).objs.size))) { s with heap := (s.heap.push o).push (enumO s.heap.objs.size) }) :=
  .of_wp fun prog w A R s z => by
    obtain ⟨hp, gs, dc, tk, os⟩ := s
    obtain ⟨hH, z⟩ := z
    have sub := sub_enumerate
    have it1 : ∀ {A2 : Around} {E2 : Value → Shared → Prop} {Q2 : Value → Shared → Prop}, Q2 (.ref hp.objs.size) ⟨hp.push o, gs, dc, tk, os⟩ → wpAny (model prog w) A2 (pyIter v) Q2 E2 ⟨hp, gs, dc, tk, os⟩ := fun q => B.iter prog w _ _ ⟨hp, gs, dc, tk, os⟩ _ hH q
    wp_walk using it1
    refine wpAny_stack_any fun fs => wpAny_pure ?_
    split
    · rename_i cc _ _ _ _ _
      cases (cc == Value.type "enumerate") <;> (wp_walk using it1; exact ⟨_, rfl, z⟩)
    · wp_walk using it1; exact ⟨_, rfl, z⟩
theorem callEnum {prog : Program} {w : World} {A : Around} {E : Value → Shared → Prop} {s : Shared} {v : Value} {o : Obj} {H : Heap → Prop} {Q : Value → Shared → Prop} (B : Begins v o H) (hH : H s.heap)
    (q : ∀ h2, IsEnum h2 (s.heap.objs.size + 1) s.heap.objs.size 0 .none → h2.get? s.heap.objs.size = some o → (∀ b u, s.heap.get? b = some u → h2.get? b = some u) → Q (.ref (s.heap.objs.size + 1)) { s with heap := h2 }) : wpAny (model prog w) A (call (.type "enumerate") [v]) Q E s := by
  have sz : (s.heap.push o).objs.size = s.heap.objs.size + 1 := Heap.size_push ..
  have en : IsEnum ((s.heap.push o).push (enumO s.heap.objs.size)) (s.heap.objs.size + 1) s.heap.objs.size 0 .none := by
    have := Heap.get?_push_size (s.heap.push o) (o := enumO s.heap.objs.size) rfl
    rw [sz] at this
    exact this
  have fin := q _ en (Heap.get?_push_of_some _ (Heap.get?_push_size _ B.free)) fun b u z => Heap.get?_push_of_some _ (Heap.get?_push_of_some _ z)
  refine callType_new F.called_enumerate (by decide) (F.typeCall_enumerate_1 v) (F.newCall_enumerate_1 v) (fun ob => F.args_object_init_2 ob v) F.entry_enumerate_new (newEnum B) ⟨hH, ?_⟩
  show _ ∧ _
  rw [sz]
  exact ⟨⟨_, en, rfl⟩, fin⟩
/-- the tuple at a, each item in a new pair -/
def IteT (K : PySem.W.Frag) (a : Addr) : It :=
  ⟨fun i H => ∃ (xs : List V) (x : V), SqT K H a xs ∧ xs[i]? = some x, fun i H v H2 => ∃ T x, v = .ref T ∧ H T = none ∧ H2 = upd H T (.tup [.int (i : Nat), x]) ∧ ∀ xs, SqT K H a xs → xs[i]? = some x, fun i H => ∃ xs : List V, SqT K H a xs ∧ xs.length = i⟩
theorem turnEnumT {P : Program} {w : World} {K : PySem.W.Frag} {elts : List Expr} {kk : Nat} {tpos : Pos} (a e it : Addr) : Turn P w K (.Tuple elts kk tpos) (IteT K a) [e, it] e (fun i h => (∃ old, IsEnum h e it ((i : Nat) : Int) old) ∧ h.IsTupleIter it a i ∧ e ≠ it ∧ a ≠ e ∧ a ≠ it) where
  mem := List.mem_cons_self
  obj := fun i h st b hb => by
    obtain ⟨⟨old, en⟩, ⟨o, ho, -, hd⟩, -⟩ := st
    rcases List.mem_cons.mp hb with rfl | hb
    · exact ⟨_, en, fun v z => nomatch z⟩
    · rw [List.mem_singleton.mp hb]
      exact ⟨o, ho, fun v z => by rw [hd] at z; cases z⟩
  keep := fun i h h2 st kp => by
    obtain ⟨⟨old, en⟩, hi, ne⟩ := st
    exact ⟨⟨old, kp e List.mem_cons_self _ en⟩, hi.at fun o z => kp it (by simp) o z, ne⟩
  item := by
    intro X hP hw hK hc i pins s σ H E I hf st hg
    subst hP hw hK
    obtain ⟨⟨old, en⟩, hit, ne, nae, nai⟩ := st
    obtain ⟨xs, x, hq, hx⟩ := hg
    obtain ⟨its, rv, p, -⟩ := I.tuple hq
    obtain ⟨u, hu, ru⟩ := rv.get hx
    have hlt : i < its.toArray.size := by
      rw [List.size_toArray]
      exact (List.getElem?_eq_some_iff.mp hu).1
    have D := Draws.tuple (prog := X.prog) (w := X.w) (A := X.A.in1) (I.ok.hd hc) it a nai its.toArray
    have lte : e < s.heap.objs.size := Heap.lt_size en
    have lti : it < s.heap.objs.size := by obtain ⟨_, z, -⟩ := hit; exact Heap.lt_size z
    refine wpAny_pyNext_enum_itemD D en ⟨hit, p⟩ hlt ne (by simp; exact ⟨ne, fun z => nae z.symm⟩) fun y h2 tk hy ho hs2 hT hsz hk => ?_
    have ey : y = u := by
      have z : its.toArray[i]? = some y := hy
      rw [List.getElem?_toArray, hu] at z
      exact (Option.some.inj z).symm
    subst ey
    refine ⟨_, rfl, wpAny_letOwnedTupleGo_enum (s := { s with heap := h2, toks := tk + 1 }) ho fun h3 en3 sb => ?_⟩
    have tup3 : h3.get? s.heap.objs.size = some { cls := .type "tuple", data := .seq #[.int i tk, y] } := (sb.2 _ (Nat.ne_of_gt lte)).trans hT
    have new : ObjOk X.prog X.w (upd H s.heap.objs.size (.tup [.int (i : Nat), x])) h3 s.heap.objs.size (.tup [.int (i : Nat), x]) := ⟨by show 2 ≤ sizeLine; decide, [.int i tk, y], .cons ⟨_, rfl⟩ (.cons ru .nil), _, tup3, rfl, _, rfl⟩
    have same : ∀ b ob, b ∉ [e, it] → s.heap.get? b = some ob → h3.get? b = some ob := fun b ob hb z => by
      simp only [List.mem_cons, List.not_mem_nil, or_false, not_or] at hb
      exact (sb.2 b hb.1).trans (hk b ob hb.1 hb.2 z)
    have I1 : Inv X pins σ (upd H s.heap.objs.size (.tup [.int (i : Nat), x])) { s with heap := h3, toks := tk + 1 } := I.turnedNew (ch := [e, it]) same hf (Nat.le_refl _) new
    refine ⟨.ref s.heap.objs.size, _, I1, rfl, ⟨_, x, rfl, I.hok.fresh (Nat.le_refl _), rfl, fun ys hy => by rw [I.tuple_inj hy hq]; exact hx⟩, ⟨⟨y, ?_⟩, hs2.1.at fun o z => (sb.2 it (Ne.symm ne)).trans z, ne, nae, nai⟩, fun b hb => ?_⟩
    · rw [show ((i + 1 : Nat) : Int) = (i : Int) + 1 by omega]
      exact en3
    · have hb2 := hb
      simp only [List.mem_cons, List.not_mem_nil, or_false] at hb2
      have lt : b < s.heap.objs.size := by rcases hb2 with rfl | rfl <;> assumption
      rw [upd_ne (Nat.ne_of_lt lt)]
      exact (hf b hb).1
  done := by
    intro X hP hw hK hc i pins s σ H E I hf st hg
    subst hP hw hK
    obtain ⟨⟨old, en⟩, hit, ne, nae, nai⟩ := st
    obtain ⟨xs, hq, hx⟩ := hg
    obtain ⟨its, rv, p, -⟩ := I.tuple hq
    have ei : i = its.toArray.size := by rw [List.size_toArray, ← rv.length]; exact hx.symm
    subst ei
    have D := Draws.tuple (prog := X.prog) (w := X.w) (A := X.A.in1) (I.ok.hd hc) it a nai its.toArray
    obtain ⟨f0, f1, f2, f3, f4, f5⟩ := hf it (by simp)
    exact wpAny_pyNext_enum_endD D en ⟨hit, p⟩ fun h2 eb => ⟨rfl, I.turned (t' := s.toks) (fun b o hb z => eb b o hb z) f0 f1 f3 f4 f5⟩
  self := fun A i s Q E st h => by
    obtain ⟨⟨_, en⟩, -⟩ := st
    exact wpAny_pyIter_enum en h
def iEnumA (K : PySem.W.Frag) (ta : TA) : TI := fun σ H R => ta σ H fun vs H1 => ∃ a xs, vs = [.ref a] ∧ ((SqL K H1 a xs ∧ R (Ite K a) H1) ∨ (SqT K H1 a xs ∧ R (IteT K a) H1))
theorem pi_enumA {X : Cx} {e : Expr} {ta : TA} {p pos tpos : Pos} {elts : List Expr} {kk : Nat} (gl : Gl X "enumerate") (mg : X.mg "enumerate" = none) (ha : PA X [e] ta) (st : starEach [e] X.env = [(false, eval e X.env)]) : PI X (.Tuple elts kk tpos) (.Call (.Name "enumerate" p) [e] [] pos) (iEnumA X.K ta) := by
  refine ⟨fun pins s σ H R I h => Call_ (ld_blt I gl mg boot_enumerate (PyProof.Rows.callWith_type1 (thn (ha.run pos pins s σ H _ I h) fun us s1 ⟨vs, H1, I1, r, q⟩ => ?_) st rfl))⟩
  obtain ⟨a, xs, rfl, q⟩ := q
  obtain ⟨u, rfl, ru⟩ := r.one
  cases ru
  have young : ∀ b ∈ [s1.heap.objs.size + 1, s1.heap.objs.size], FpOk X pins H1 b := fun b hb => by
    have le : s1.heap.objs.size ≤ b := by
      simp only [List.mem_cons, List.not_mem_nil, or_false] at hb
      rcases hb with rfl | rfl
      · exact Nat.le_succ _
      · exact Nat.le_refl _
    exact I1.fpOk le (I1.hok.fresh le)
  rcases q with ⟨hq, q⟩ | ⟨hq, q⟩
  · obtain ⟨its, rv, tp, -⟩ := I1.list hq
    refine callEnum (begins_list a its.toArray) tp.isList fun h2 en hit kp => wpAny_pyIter_enum en ?_
    have I2 : Inv X pins σ H1 { s1 with heap := h2 } := I1.kept (t' := s1.toks) kp
    exact ⟨s1.heap.objs.size + 1, [s1.heap.objs.size + 1, s1.heap.objs.size], _, _, H1, rfl, I2, turn_enum a (s1.heap.objs.size + 1) s1.heap.objs.size, ⟨⟨.none, en⟩, ⟨_, hit, rfl, rfl⟩, Nat.succ_ne_self _⟩, young, q⟩
  · obtain ⟨its, rv, tp, -⟩ := I1.tuple hq
    obtain ⟨oa, hoa, _⟩ := id tp
    have lta : a < s1.heap.objs.size := Heap.lt_size hoa
    refine callEnum (begins_tuple a its.toArray) tp fun h2 en hit kp => wpAny_pyIter_enum en ?_
    have I2 : Inv X pins σ H1 { s1 with heap := h2 } := I1.kept (t' := s1.toks) kp
    exact ⟨s1.heap.objs.size + 1, [s1.heap.objs.size + 1, s1.heap.objs.size], _, _, H1, rfl, I2, turnEnumT a (s1.heap.objs.size + 1) s1.heap.objs.size, ⟨⟨.none, en⟩, ⟨_, hit, rfl, rfl⟩, Nat.succ_ne_self _, Nat.ne_of_lt (Nat.lt_succ_of_lt lta), Nat.ne_of_lt lta⟩, young, q⟩
end J
/-! what an evaluation says of the code; operations. -/
namespace J
open PySem L2 PySem.Spec PyProof.Rows

section
variable (K : PySem.W.Frag) (Ca : Str → Addr) (W : WX)
def RvR (ρ : Env) (σ : St) (G' : Gh) (H H' : Hp) : RV → V → Prop
  | .v d, x => Rep K G' H' d x
  | .fr ds, x => ∃ a vs, x = .ref a ∧ H a = none ∧ H' a = some (.lst vs) ∧ Reps K G' H' ds vs ∧ ¬ G'.Fz a ∧ ∀ n : Nat, G'.φ[n]? ≠ some a
  | .bo i ds, x => ρ[i]? = some (.own ds) ∧ σ[i]? = some (some x)
def ExR (x : Ex) (G : Gh) (H : Hp) (cls : Value) (d : Option Addr) : Prop :=
  cls = .ref (Ca x.cls) ∧ match x.fs with
    | [] => d = none
    | _ => ∃ dx gs, d = some dx ∧ H dx = some (.xd gs) ∧ FsR K G H x.fs gs
def At {α β : Type} (R : Gh → Hp → Hp → α → β → Prop) (σ : St) (G : Gh) (μ : Sto) (H : Hp) (m : M α) (Q : β → Hp → Prop) : Prop := match m μ with
  | none => False
  | some (.ok a μ1) => ∀ G1 v H1, Ext G μ H G1 μ1 H1 → Okk K Ca G1 μ1 H1 → R G1 H H1 a v → Q v H1
  | some (.exc x μ1) => ∀ G1 H1 cls d, Ext G μ H G1 μ1 H1 → Okk K Ca G1 μ1 H1 → ExR K Ca x G1 H1 cls d → W cls d σ H1
end
/-- what a relation to the heap ahead must bear -/
def Mono {α β : Type} (R : Gh → Hp → Hp → α → β → Prop) : Prop := ∀ G H0 H H' a v, (∀ b, H b = none → H0 b = none) → R G H H' a v → R G H0 H' a v
section
variable {K : PySem.W.Frag} {Ca : Str → Addr} {W : WX} {Z : Ent} {G G1 : Gh} {μ μ1 : Sto} {ρ : Env} {hv : List (D × V)} {σ : St} {H H1 : Hp}
theorem RvR.mono {ρ : Env} {σ : St} : Mono (RvR K ρ σ) := fun G H0 H H' a v o r => by
  cases a with
  | v d => exact r
  | fr ds => obtain ⟨a, vs, h1, h2, h3⟩ := r; exact ⟨a, vs, h1, o a h2, h3⟩
  | bo i ds => exact r
theorem At.bind {α β γ δ : Type} {R : Gh → Hp → Hp → α → β → Prop} {R' : Gh → Hp → Hp → γ → δ → Prop} {m : M α} {k : α → M γ} {Q : δ → Hp → Prop} (mono : Mono R') (h : At K Ca W R' σ G μ H (M.bind m k) Q) :
    At K Ca W R σ G μ H m fun x H1 => ∃ a G1 μ1, Ext G μ H G1 μ1 H1 ∧ Okk K Ca G1 μ1 H1 ∧ R G1 H H1 a x ∧ ∀ G2, Ext G μ H G2 μ1 H1 → Okk K Ca G2 μ1 H1 → At K Ca W R' σ G2 μ1 H1 (k a) Q := by
  unfold At M.bind at h
  unfold At
  cases e : m μ with
  | none => rw [e] at h; exact h
  | some r =>
    rw [e] at h
    cases r with
    | exc x μ1 => exact h
    | ok a μ1 =>
      intro G1 v H1 ex ok r
      refine ⟨a, G1, μ1, ex, ok, r, fun G2 e2 ok2 => ?_⟩
      have h : (match k a μ1 with
        | none => False
        | some (.ok a μ1) => ∀ G1 v H1, Ext G μ H G1 μ1 H1 → Okk K Ca G1 μ1 H1 → R' G1 H H1 a v → Q v H1
        | some (.exc x μ1) => ∀ G1 H1 cls d, Ext G μ H G1 μ1 H1 → Okk K Ca G1 μ1 H1 → ExR K Ca x G1 H1 cls d → W cls d σ H1) := h
      cases q : k a μ1 with
      | none => rw [q] at h; exact h
      | some r =>
        rw [q] at h
        cases r with
        | exc x μ2 => exact fun G3 H3 c d e3 ok3 x3 => h G3 H3 c d (e2.trans e3) ok3 x3
        | ok b μ2 => exact fun G3 w H3 e3 ok3 r3 => h G3 w H3 (e2.trans e3) ok3 (mono _ _ _ _ _ _ e2.old r3)
theorem At.imp {α β γ : Type} {R : Gh → Hp → Hp → α → β → Prop} {R' : Gh → Hp → Hp → α → γ → Prop} {m : M α} {Q : β → Hp → Prop} {Q' : γ → Hp → Prop} (h : At K Ca W R σ G μ H m Q)
    (f : ∀ G1 μ1 H1 a w, Ext G μ H G1 μ1 H1 → Okk K Ca G1 μ1 H1 → R' G1 H H1 a w → (∀ v, R G1 H H1 a v → Q v H1) → Q' w H1) : At K Ca W R' σ G μ H m Q' := by
  unfold At at h ⊢
  cases e : m μ with
  | none => rw [e] at h; exact h
  | some r =>
    rw [e] at h
    cases r with
    | exc x μ1 => exact h
    | ok a μ1 => exact fun G1 w H1 e1 ok1 r1 => f G1 μ1 H1 a w e1 ok1 r1 fun v r => h G1 v H1 e1 ok1 r
theorem At.pure {α β : Type} {R : Gh → Hp → Hp → α → β → Prop} {a : α} {Q : β → Hp → Prop} (ok : Okk K Ca G μ H) (h : At K Ca W R σ G μ H (M.pure a) Q) {v : β} (r : R G H H a v) : Q v H :=
  h G v H (Ext.refl _ _ _) ok r
/-- the same, at a heap that has grown -/
theorem At.pureX {α β : Type} {R : Gh → Hp → Hp → α → β → Prop} {a : α} {Q : β → Hp → Prop} (h : At K Ca W R σ G μ H (M.pure a) Q) {v : β} {G1 : Gh} {H1 : Hp} (e : Ext G μ H G1 μ H1) (ok : Okk K Ca G1 μ H1) (r : R G1 H H1 a v) : Q v H1 :=
  h G1 v H1 e ok r
theorem At.oM {α β : Type} {R : Gh → Hp → Hp → α → β → Prop} {o : Option α} {Q : β → Hp → Prop} (h : At K Ca W R σ G μ H (J.oM o) Q) : ∃ a, o = some a ∧ At K Ca W R σ G μ H (M.pure a) Q := by
  cases o with
  | none => exact False.elim h
  | some a => exact ⟨a, rfl, h⟩
theorem At.oMb {α β γ : Type} {R : Gh → Hp → Hp → γ → β → Prop} {o : Option α} {k : α → M γ} {Q : β → Hp → Prop} (h : At K Ca W R σ G μ H (M.bind (J.oM o) k) Q) : ∃ a, o = some a ∧ At K Ca W R σ G μ H (k a) Q := by
  cases o with
  | none => exact False.elim h
  | some a => exact ⟨a, rfl, h⟩
theorem At.pureb {α β γ : Type} {R : Gh → Hp → Hp → γ → β → Prop} {a : α} {k : α → M γ} {Q : β → Hp → Prop} (h : At K Ca W R σ G μ H (M.bind (M.pure a) k) Q) : At K Ca W R σ G μ H (k a) Q := h
theorem At.ite {α β : Type} {R : Gh → Hp → Hp → α → β → Prop} {c : Prop} [Decidable c] {m : M α} {Q : β → Hp → Prop} (h : At K Ca W R σ G μ H (if c then m else stuck) Q) : c ∧ At K Ca W R σ G μ H m Q := by
  by_cases hc : c
  · rw [if_pos hc] at h; exact ⟨hc, h⟩
  · rw [if_neg hc] at h; exact False.elim h

/-- a value has come: it is held from now on -/
theorem Rl.take (rl : Rl K Ca Z G μ ρ hv σ H) (e : Ext G μ H G1 μ1 H1) (ok : Okk K Ca G1 μ1 H1) {rv : RV} {x : V} (r : RvR K ρ σ G1 H H1 rv x) :
    ∃ G2, Ext G μ H G2 μ1 H1 ∧ Okk K Ca G2 μ1 H1 ∧ Rl K Ca Z G2 μ1 ρ ((rv.d, x) :: hv) σ H1 ∧ (∀ d, rv.val = some d → Rep K G2 H1 d x) ∧ (∀ i ds, rv = .bo i ds → ρ[i]? = some (.own ds) ∧ σ[i]? = some (some x)) := by
  have r1 := rl.step e ok
  cases rv with
  | v d => exact ⟨G1, e, ok, r1.hold (.inl r), fun d' h => (by cases h; exact r), fun i ds h => (by cases h)⟩
  | bo i ds => exact ⟨G1, e, ok, r1.hold (.inr ⟨i, ds, r.1, r.2, rfl⟩), fun d' h => (by cases h), fun i' ds' h => (by cases h; exact r)⟩
  | fr ds =>
    obtain ⟨a, vs, rfl, h0, h1, h2, h3, h4⟩ := r
    have nl : ¬ Lv G1 μ1 a := fun ⟨n, _, q, _⟩ => h4 n q
    have e2 : Ext G μ H (G1.frz a) μ1 H1 := ⟨e.pre, e.new, fun b f => .inl (e.fz b f), fun b f => f.elim (fun f => e.fzn b f) fun f => .inr (.inl (by rw [f]; exact h0)), e.keep, e.old, e.lv⟩
    have st : Stay K G1 H1 (G1.frz a) H1 := ⟨fun _ _ h => h, fun _ f => .inl f, fun _ _ h _ => h, fun _ _ h _ => h⟩
    have ok2 : Okk K Ca (G1.frz a) μ1 H1 := ⟨ok.len, ok.nd, ok.ex, fun b l f => f.elim (ok.nfz b l) fun f => nl (by rw [← f]; exact l), fun b f => f.elim (ok.fex b) fun f z => (by rw [f, h1] at z; cases z),
      fun n c b q1 q2 => (ok.cell n c b q1 q2).step st fun _ h => h⟩
    have rp : Rep K (G1.frz a) H1 (.lst ds) (.ref a) := by
      simp only [Rep]
      exact ⟨a, vs, rfl, ⟨.inr rfl, h1⟩, st.reps _ _ h2⟩
    exact ⟨_, e2, ok2, (rl.step e2 ok2).hold (.inl rp), fun d h => (by cases h; exact rp), fun i ds h => (by cases h)⟩
end

/-! ### readings by evaluation -/
section
variable (K : PySem.W.Frag) (Ca : Str → Addr) (W : WX) (C : Calls) (g : GT)
def tE (e : E) : TE := fun σ H Q => ∃ Z G μ ρ hv, Rl K Ca Z G μ ρ hv σ H ∧ At K Ca W (RvR K ρ σ) σ G μ H (evalE C g e ρ) Q
def RB : Gh → Hp → Hp → Bool → Bool → Prop := fun _ _ _ a b => a = b
def tT (e : E) : TT := fun σ H Q => ∃ Z G μ ρ hv, Rl K Ca Z G μ ρ hv σ H ∧ At K Ca W RB σ G μ H (evalT C g e ρ) Q
def RRs : Gh → Hp → Hp → List D → List V → Prop := fun G _ H ds vs => Reps K G H ds vs
def Hds (G : Gh) (H : Hp) (ρ : Env) (σ : St) : List D → List V → Prop
  | [], vs => vs = []
  | d :: ds, vs => ∃ v r, vs = v :: r ∧ Hd K G H ρ σ d v ∧ Hds G H ρ σ ds r
def RBs (ρ : Env) (σ : St) : Gh → Hp → Hp → List D → List V → Prop := fun G _ H ds vs => Hds K G H ρ σ ds vs
def tAs (es : List E) : TA := fun σ H Q => ∃ Z G μ ρ hv, Rl K Ca Z G μ ρ hv σ H ∧ At K Ca W (RRs K) σ G μ H (evalEs C g es ρ) Q
def tBs (es : List E) : TA := fun σ H Q => ∃ Z G μ ρ hv, Rl K Ca Z G μ ρ hv σ H ∧ At K Ca W (RBs K ρ σ) σ G μ H (evalBs C g es ρ) Q
def RO : Gh → Hp → Hp → Option Int → Option Int → Prop := fun _ _ _ a b => a = b
def tO (e : Option E) : TO := fun σ H Q => ∃ Z G μ ρ hv, Rl K Ca Z G μ ρ hv σ H ∧ At K Ca W RO σ G μ H (evalO C g e ρ) Q
end
theorem RB.mono : Mono RB := fun _ _ _ _ _ _ _ r => r
theorem RRs.mono {K : PySem.W.Frag} : Mono (RRs K) := fun _ _ _ _ _ _ _ r => r
theorem RBs.mono {K : PySem.W.Frag} {ρ : Env} {σ : St} : Mono (RBs K ρ σ) := fun _ _ _ _ _ _ _ r => r
theorem RO.mono : Mono RO := fun _ _ _ _ _ _ _ r => r
section
variable {K : PySem.W.Frag} {Ca : Str → Addr} {W : WX} {C : Calls} {g : GT} {Z : Ent} {G G1 : Gh} {μ μ1 : Sto} {ρ : Env} {hv : List (D × V)} {σ : St} {H H1 : Hp}
theorem tE_then {α β : Type} {R' : Gh → Hp → Hp → α → β → Prop} {e : E} {k : RV → M α} {Q : β → Hp → Prop} {T : VK} (mono : Mono R') (rl : Rl K Ca Z G μ ρ hv σ H) (h : At K Ca W R' σ G μ H (M.bind (evalE C g e ρ) k) Q)
    (next : ∀ rv x G1 μ1 H1, Ext G μ H G1 μ1 H1 → Rl K Ca Z G1 μ1 ρ ((rv.d, x) :: hv) σ H1 → (∀ d, rv.val = some d → Rep K G1 H1 d x) → (∀ i ds, rv = .bo i ds → ρ[i]? = some (.own ds) ∧ σ[i]? = some (some x)) → At K Ca W R' σ G1 μ1 H1 (k rv) Q → T x H1) :
    tE K Ca W C g e σ H T := by
  refine ⟨Z, G, μ, ρ, hv, rl, (At.bind (R := RvR K ρ σ) mono h).imp fun G1 μ1 H1 rv x e1 ok1 r1 f => ?_⟩
  obtain ⟨a, G2, μ2, e2, ok2, r2, q⟩ := f x r1
  obtain ⟨G3, e3, ok3, rl3, v3, b3⟩ := rl.take e2 ok2 r2
  exact next a x G3 μ2 H1 e3 rl3 v3 b3 (q G3 e3 ok3)
end

/-! ### what is known of a held value -/
section
variable {K : PySem.W.Frag} {Ca : Str → Addr} {Z : Ent} {G : Gh} {μ : Sto} {ρ : Env} {hv : List (D × V)} {σ : St} {H : Hp} {x : V}
theorem Hd.non (h : Hd K G H ρ σ .non x) : x = .non := h.elim (fun h => by simpa only [Rep] using h) fun ⟨_, _, _, _, e⟩ => by cases e
theorem Hd.bl {b : Bool} (h : Hd K G H ρ σ (.bl b) x) : x = .bl b := h.elim (fun h => by simpa only [Rep] using h) fun ⟨_, _, _, _, e⟩ => by cases e
theorem Hd.int {i : Int} (h : Hd K G H ρ σ (.int i) x) : x = .int i := h.elim (fun h => by simpa only [Rep] using h) fun ⟨_, _, _, _, e⟩ => by cases e
theorem Hd.str {z : Str} (h : Hd K G H ρ σ (.str z) x) : x = .str z := h.elim (fun h => by simpa only [Rep] using h) fun ⟨_, _, _, _, e⟩ => by cases e
theorem Hd.tup {ds : List D} (h : Hd K G H ρ σ (.tup ds) x) : ∃ a vs, x = .ref a ∧ SqT K H a vs ∧ Reps K G H ds vs := h.elim (fun h => by simpa only [Rep] using h) fun ⟨_, _, _, _, e⟩ => by cases e
theorem Hd.ref {n : Nat} (h : Hd K G H ρ σ (.ref n) x) : ∃ a, x = .ref a ∧ G.φ[n]? = some a := h.elim (fun h => by simpa only [Rep] using h) fun ⟨_, _, _, _, e⟩ => by cases e
theorem Hd.src {ns : List Int} (h : Hd K G H ρ σ (.src ns) x) : ∃ a, x = .ref a ∧ SqL K H a (ns.map V.int) := h.elim (fun h => by
  simp only [Rep] at h
  obtain ⟨a, e, q⟩ := h
  exact ⟨a, e, q.elim (fun q => .inl q.2) .inr⟩) fun ⟨_, _, _, _, e⟩ => by cases e
/-- a list: where it stands, its items -/
theorem Hd.lst {H0 : Hp} {ds : List D} (s : SlR K G H H0 ρ σ) (h : Hd K G H ρ σ (.lst ds) x) : ∃ a vs, x = .ref a ∧ H a = some (.lst vs) ∧ Reps K G H ds vs := by
  rcases h with h | ⟨i, es, h1, h2, e⟩
  · simp only [Rep] at h
    obtain ⟨a, vs, e, q, r⟩ := h
    exact ⟨a, vs, e, q.2, r⟩
  · cases e
    obtain ⟨a, vs, q1, q2, q3, _⟩ := s.own i ds h1
    rw [q1] at h2; cases h2
    exact ⟨a, vs, rfl, q2, q3⟩
theorem Reps.length : ∀ {ds : List D} {vs : List V}, Reps K G H ds vs → ds.length = vs.length
  | [], _, h => by simp only [Reps] at h; rw [h]; rfl
  | _ :: ds, _, h => by
    simp only [Reps] at h
    obtain ⟨v, r, rfl, _, h2⟩ := h
    rw [List.length_cons, List.length_cons, Reps.length h2]
theorem Reps.get : ∀ {ds : List D} {vs : List V} {i : Nat} {d : D}, Reps K G H ds vs → ds[i]? = some d → ∃ v, vs[i]? = some v ∧ Rep K G H d v
  | [], _, _, _, _, e => by simp at e
  | _ :: _, _, 0, _, h, e => by
    simp only [Reps] at h
    obtain ⟨v, r, rfl, h1, _⟩ := h
    simp at e; subst e
    exact ⟨v, rfl, h1⟩
  | _ :: ds, _, i + 1, d, h, e => by
    simp only [Reps] at h
    obtain ⟨v, r, rfl, _, h2⟩ := h
    obtain ⟨v', q1, q2⟩ := Reps.get (i := i) (d := d) h2 (by simpa using e)
    exact ⟨v', by simpa using q1, q2⟩
theorem Reps.getV : ∀ {ds : List D} {vs : List V} {i : Nat} {v : V}, Reps K G H ds vs → vs[i]? = some v → ∃ d, ds[i]? = some d ∧ Rep K G H d v
  | [], _, _, _, h, e => by simp only [Reps] at h; subst h; simp at e
  | d :: _, _, 0, _, h, e => by
    simp only [Reps] at h
    obtain ⟨v, r, rfl, h1, _⟩ := h
    simp at e; subst e
    exact ⟨d, rfl, h1⟩
  | _ :: ds, _, i + 1, v, h, e => by
    simp only [Reps] at h
    obtain ⟨v, r, rfl, _, h2⟩ := h
    obtain ⟨d', q1, q2⟩ := Reps.getV (i := i) h2 (by simpa using e)
    exact ⟨d', by simpa using q1, q2⟩
theorem Reps.append : ∀ {ds es : List D} {vs ws : List V}, Reps K G H ds vs → Reps K G H es ws → Reps K G H (ds ++ es) (vs ++ ws)
  | [], _, _, _, h, k => by simp only [Reps] at h; subst h; exact k
  | _ :: ds, es, _, ws, h, k => by
    simp only [Reps] at h
    obtain ⟨v, r, rfl, h1, h2⟩ := h
    show Reps K G H (_ :: (ds ++ es)) (v :: (r ++ ws))
    simp only [Reps]
    exact ⟨v, _, rfl, h1, Reps.append h2 k⟩
theorem Reps.take : ∀ {ds : List D} {vs : List V} (n : Nat), Reps K G H ds vs → Reps K G H (ds.take n) (vs.take n)
  | _, _, 0, _ => by simp only [List.take_zero, Reps]
  | [], _, _ + 1, h => by simp only [Reps] at h; subst h; simp only [List.take_nil, Reps]
  | _ :: ds, _, n + 1, h => by
    simp only [Reps] at h
    obtain ⟨v, r, rfl, h1, h2⟩ := h
    simp only [List.take_succ_cons, Reps]
    exact ⟨v, _, rfl, h1, Reps.take n h2⟩
theorem Reps.drop : ∀ {ds : List D} {vs : List V} (n : Nat), Reps K G H ds vs → Reps K G H (ds.drop n) (vs.drop n)
  | _, _, 0, h => h
  | [], _, _ + 1, h => by simp only [Reps] at h; subst h; simp only [List.drop_nil, Reps]
  | _ :: ds, _, n + 1, h => by
    simp only [Reps] at h
    obtain ⟨v, r, rfl, h1, h2⟩ := h
    exact Reps.drop n h2
theorem Reps.set : ∀ {ds : List D} {vs : List V} {d : D} {v : V} (n : Nat), Reps K G H ds vs → Rep K G H d v → Reps K G H (ds.set n d) (vs.set n v)
  | [], _, _, _, _, h, _ => by simp only [Reps] at h; subst h; simp only [List.set_nil, Reps]
  | _ :: ds, _, _, _, 0, h, k => by
    simp only [Reps] at h
    obtain ⟨v, r, rfl, h1, h2⟩ := h
    simp only [List.set_cons_zero, Reps]
    exact ⟨_, _, rfl, k, h2⟩
  | _ :: ds, _, _, _, n + 1, h, k => by
    simp only [Reps] at h
    obtain ⟨v, r, rfl, h1, h2⟩ := h
    simp only [List.set_cons_succ, Reps]
    exact ⟨_, _, rfl, h1, Reps.set n h2 k⟩
theorem Reps.one {d : D} {v : V} (h : Rep K G H d v) : Reps K G H [d] [v] := by
  simp only [Reps]
  exact ⟨v, [], rfl, h, rfl⟩
theorem Reps.nil : Reps K G H [] [] := by simp only [Reps]
theorem Reps.cons {d : D} {v : V} {ds : List D} {vs : List V} (h : Rep K G H d v) (k : Reps K G H ds vs) : Reps K G H (d :: ds) (v :: vs) := by
  simp only [Reps]
  exact ⟨v, vs, rfl, h, k⟩
theorem Reps.rep (k : Nat) {ds : List D} {vs : List V} (h : Reps K G H ds vs) : Reps K G H (List.replicate k ds).flatten (List.replicate k vs).flatten := by
  induction k with
  | zero => simp [Reps]
  | succ n ih =>
    rw [List.replicate_succ, List.replicate_succ, List.flatten_cons, List.flatten_cons]
    exact h.append ih
theorem Reps.reverse {ds : List D} {vs : List V} (h : Reps K G H ds vs) : Reps K G H ds.reverse vs.reverse := by
  induction ds generalizing vs with
  | nil => simp only [Reps] at h; subst h; exact Reps.nil
  | cons d ds ih =>
    simp only [Reps] at h
    obtain ⟨v, r, rfl, h1, h2⟩ := h
    rw [List.reverse_cons, List.reverse_cons]
    exact (ih h2).append (.one h1)
theorem Reps.dropLast {ds : List D} {vs : List V} (h : Reps K G H ds vs) : Reps K G H ds.dropLast vs.dropLast := by
  rw [List.dropLast_eq_take, List.dropLast_eq_take, ← h.length]
  exact h.take _
theorem Reps.ints : ∀ (ns : List Int), Reps K G H (ns.map D.int) (ns.map V.int)
  | [] => Reps.nil
  | n :: r => Reps.cons (by simp only [Rep]) (Reps.ints r)
theorem Reps.signs (x : Str) : Reps K G H (x.cps.toList.map strD) (x.cps.toList.map fun c => V.str ⟨#[c]⟩) := by
  induction x.cps.toList with
  | nil => exact Reps.nil
  | cons c r ih => exact Reps.cons (by simp only [strD, Rep]) ih
theorem Reps.strs : ∀ (ns : List Str), Reps K G H (ns.map D.str) (ns.map V.str)
  | [] => Reps.nil
  | n :: r => Reps.cons (by simp only [Rep]) (Reps.strs r)
theorem Reps.ofInts : ∀ {ds : List D} {vs : List V} {ns : List Int}, Reps K G H ds vs → intsD ds = some ns → vs = ns.map V.int
  | [], _, _, h, e => by simp only [Reps] at h; simp only [intsD, Option.some.injEq] at e; rw [h, ← e]; rfl
  | .int i :: r, _, _, h, e => by
    simp only [Reps, Rep] at h
    obtain ⟨v, r', rfl, rfl, h2⟩ := h
    simp only [intsD, Option.map_eq_some_iff] at e
    obtain ⟨ns, e1, rfl⟩ := e
    rw [Reps.ofInts h2 e1]; rfl
  | .non :: _, _, _, _, e => by simp [intsD] at e
  | .bl _ :: _, _, _, _, e => by simp [intsD] at e
  | .str _ :: _, _, _, _, e => by simp [intsD] at e
  | .tup _ :: _, _, _, _, e => by simp [intsD] at e
  | .lst _ :: _, _, _, _, e => by simp [intsD] at e
  | .ref _ :: _, _, _, _, e => by simp [intsD] at e
  | .src _ :: _, _, _, _, e => by simp [intsD] at e
theorem Reps.ofBls : ∀ {ds : List D} {vs : List V} {ns : List Bool}, Reps K G H ds vs → blsD ds = some ns → vs = ns.map V.bl
  | [], _, _, h, e => by simp only [Reps] at h; simp only [blsD, Option.some.injEq] at e; rw [h, ← e]; rfl
  | .bl i :: r, _, _, h, e => by
    simp only [Reps, Rep] at h
    obtain ⟨v, r', rfl, rfl, h2⟩ := h
    simp only [blsD, Option.map_eq_some_iff] at e
    obtain ⟨ns, e1, rfl⟩ := e
    rw [Reps.ofBls h2 e1]; rfl
  | .non :: _, _, _, _, e => by simp [blsD] at e
  | .int _ :: _, _, _, _, e => by simp [blsD] at e
  | .str _ :: _, _, _, _, e => by simp [blsD] at e
  | .tup _ :: _, _, _, _, e => by simp [blsD] at e
  | .lst _ :: _, _, _, _, e => by simp [blsD] at e
  | .ref _ :: _, _, _, _, e => by simp [blsD] at e
  | .src _ :: _, _, _, _, e => by simp [blsD] at e
theorem Reps.ofStrs : ∀ {ds : List D} {vs : List V} {ns : List Str}, Reps K G H ds vs → strsD ds = some ns → vs = ns.map V.str
  | [], _, _, h, e => by simp only [Reps] at h; simp only [strsD, Option.some.injEq] at e; rw [h, ← e]; rfl
  | .str i :: r, _, _, h, e => by
    simp only [Reps, Rep] at h
    obtain ⟨v, r', rfl, rfl, h2⟩ := h
    simp only [strsD, Option.map_eq_some_iff] at e
    obtain ⟨ns, e1, rfl⟩ := e
    rw [Reps.ofStrs h2 e1]; rfl
  | .non :: _, _, _, _, e => by simp [strsD] at e
  | .int _ :: _, _, _, _, e => by simp [strsD] at e
  | .bl _ :: _, _, _, _, e => by simp [strsD] at e
  | .tup _ :: _, _, _, _, e => by simp [strsD] at e
  | .lst _ :: _, _, _, _, e => by simp [strsD] at e
  | .ref _ :: _, _, _, _, e => by simp [strsD] at e
  | .src _ :: _, _, _, _, e => by simp [strsD] at e
/-! as the comparison reads it -/
mutual
theorem Rep.dp : ∀ (d : D) (v : V), Rep K G H d v → PyData.canLay0 d.py = true → Dp K H v d.py
  | .non, _, h, _ => by simp only [Rep] at h; subst h; simp only [D.py]; exact .non
  | .bl b, _, h, _ => by simp only [Rep] at h; subst h; simp only [D.py]; exact .bl b
  | .int b, _, h, _ => by simp only [Rep] at h; subst h; simp only [D.py]; exact .int b
  | .str b, _, h, _ => by simp only [Rep] at h; subst h; simp only [D.py]; exact .str b
  | .tup ds, _, h, c => by
    simp only [Rep] at h
    obtain ⟨a, vs, rfl, q, r⟩ := h
    simp only [D.py, PyData.canLay0] at c ⊢
    exact .tup q (Reps.dp ds vs r c)
  | .lst ds, _, h, c => by
    simp only [Rep] at h
    obtain ⟨a, vs, rfl, q, r⟩ := h
    simp only [D.py, PyData.canLay0] at c ⊢
    exact .lst q.sq (Reps.dp ds vs r c)
  | .ref n, _, h, c => by simp only [D.py, PyData.canLay0] at c; cases c
  | .src n, _, h, c => by simp only [D.py, PyData.canLay0] at c; cases c
theorem Reps.dp : ∀ (ds : List D) (vs : List V), Reps K G H ds vs → PyData.canLayAll0 (pys ds) = true → DpAll K H vs (pys ds)
  | [], _, h, _ => by simp only [Reps] at h; subst h; simp only [pys]; exact .nil
  | d :: ds, _, h, c => by
    simp only [Reps] at h
    obtain ⟨v, r, rfl, h1, h2⟩ := h
    simp only [pys, PyData.canLayAll0, Bool.and_eq_true] at c ⊢
    exact .cons (Rep.dp d v h1 c.1) (Reps.dp ds r h2 c.2)
end
theorem Hd.dp {H0 : Hp} {d : D} (s : SlR K G H H0 ρ σ) (h : Hd K G H ρ σ d x) (c : shp d = true) : Dp K H x d.py := by
  have c2 := SeqAt.canLay_of_shaped c
  rcases h with h | ⟨i, ds, h1, h2, rfl⟩
  · exact h.dp _ _ c2
  · obtain ⟨a, vs, q1, q2, q3, _⟩ := s.own i ds h1
    rw [q1] at h2; cases h2
    simp only [D.py, PyData.canLay0] at c2 ⊢
    exact .lst (.inl (.inl q2)) (Reps.dp ds vs q3 c2)
theorem Rep.flat {d : D} {v : V} (h : Rep K G H d v) (f : isFlat d = true) : v = dV d ∧ flatV v = true := by
  cases d <;> simp only [Rep] at h <;> first | (subst h; exact ⟨rfl, rfl⟩) | cases f
theorem eq_flat {d e : D} (f : isFlat d = true) (f' : isFlat e = true) : eqV (dV d) (dV e) = eqD d e := by
  cases d <;> cases e <;> first | rfl | cases f | cases f' | (simp [eqV, dV, eqD, D.py, PyData.eqv])
theorem Reps.flat : ∀ {ds : List D} {vs : List V}, Reps K G H ds vs → ds.all isFlat = true → vs = ds.map dV ∧ vs.all flatV = true
  | [], _, h, _ => by simp only [Reps] at h; subst h; exact ⟨rfl, rfl⟩
  | d :: ds, _, h, c => by
    simp only [Reps] at h
    obtain ⟨v, r, rfl, h1, h2⟩ := h
    rw [List.all_cons, Bool.and_eq_true] at c
    obtain ⟨e1, f1⟩ := h1.flat c.1
    obtain ⟨e2, f2⟩ := Reps.flat h2 c.2
    exact ⟨by rw [e1, e2]; rfl, by rw [List.all_cons, f1, f2]; rfl⟩
theorem inV_flat {d : D} (f : isFlat d = true) : ∀ {ds : List D}, ds.all isFlat = true → inV (dV d) (ds.map dV) = ds.any fun z => eqD z d
  | [], _ => rfl
  | e :: ds, c => by
    rw [List.all_cons, Bool.and_eq_true] at c
    have ih := inV_flat f c.2
    unfold inV at ih ⊢
    rw [List.map_cons, List.any_cons, List.any_cons, eq_flat c.1 f, ih]
end
end J
/-! operations by values. -/
namespace J
open PySem L2 PySem.Spec PyProof.Rows
section
variable {K : PySem.W.Frag} {Ca : Str → Addr} {W : WX} {Z : Ent} {G : Gh} {μ : Sto} {ρ : Env} {hv : List (D × V)} {σ : St} {H : Hp} {Q : VK}
theorem same_of {d : D} {v : V} (ok : Okk K Ca G μ H) (q : At K Ca W (RvR K ρ σ) σ G μ H (M.pure (.v d)) Q) (r : Rep K G H d v) : Q v H := q.pure ok r
theorem rInt {i : Int} : Rep K G H (.int i) (.int i) := by simp only [Rep]
theorem rBl {b : Bool} : Rep K G H (.bl b) (.bl b) := by simp only [Rep]
theorem rStr {x : Str} : Rep K G H (.str x) (.str x) := by simp only [Rep]
theorem newL {ds : List D} {vs : List V} (ok : Okk K Ca G μ H) (q : At K Ca W (RvR K ρ σ) σ G μ H (M.pure (.fr ds)) Q) (r : Reps K G H ds vs) : ∀ p, H p = none → Q (.ref p) (upd H p (.lst vs)) := fun p hp =>
  q.pureX (Ext.fresh ok hp) (ok.fresh hp) ⟨p, vs, rfl, hp, upd_same, ((Ext.fresh ok hp).stay ok).reps _ _ r, fun f => ok.fex p f hp, fun n h => ok.ex n p h hp⟩
theorem newT {ds : List D} {vs : List V} (ok : Okk K Ca G μ H) (q : At K Ca W (RvR K ρ σ) σ G μ H (M.pure (.v (.tup ds))) Q) (r : Reps K G H ds vs) : ∀ p, H p = none → Q (.ref p) (upd H p (.tup vs)) := fun p hp =>
  q.pureX (Ext.fresh ok hp) (ok.fresh hp) (by
    show Rep K G _ (.tup ds) (.ref p)
    simp only [Rep]
    exact ⟨p, vs, rfl, .inl (.inl upd_same), ((Ext.fresh ok hp).stay ok).reps _ _ r⟩)
end

section
variable (K : PySem.W.Frag) (Ca : Str → Addr) (W : WX)
/-- two held values, what is made of them -/
def rOp (m : D → D → M RV) : R2 := fun x y H Q => ∃ Z G μ ρ hv σ d e, Rl K Ca Z G μ ρ hv σ H ∧ Hd K G H ρ σ d x ∧ Hd K G H ρ σ e y ∧ At K Ca W (RvR K ρ σ) σ G μ H (m d e) Q
def rUn (m : D → M RV) : V → Hp → VK → Prop := fun x H Q => ∃ Z G μ ρ hv σ d, Rl K Ca Z G μ ρ hv σ H ∧ Hd K G H ρ σ d x ∧ At K Ca W (RvR K ρ σ) σ G μ H (m d) Q
def rCl (m : List D → M RV) : List V → Hp → VK → Prop := fun xs H Q => ∃ Z G μ ρ hv σ ds, Rl K Ca Z G μ ρ hv σ H ∧ Hds K G H ρ σ ds xs ∧ At K Ca W (RvR K ρ σ) σ G μ H (m ds) Q
end
def BOp.op : BOp → Operator
  | .add => .Add | .sub => .Sub | .mul => .Mult | .fdiv => .FloorDiv | .mod => .Mod | .pow => .Pow
def COp.op : COp → CmpOp
  | .eq => .Eq | .ne => .NotEq | .lt => .Lt | .le => .LtE | .gt => .Gt | .ge => .GtE | .isin => .In | .notin => .NotIn | .is => .Is | .isnot => .IsNot
section
variable {X : Cx} {Ca : Str → Addr} {W : WX}
theorem bin_ok (o : BOp) : OpR X (binaryOp o.op) (rOp X.K Ca W fun a b => oM (binD o a b)) := by
  intro pins s σ0 H x y v u Q I rx ry h
  obtain ⟨Z, G, μ, ρ, hv, σ, d, e, rl, hd, he, q⟩ := h
  obtain ⟨rv, eq, q⟩ := q.oM
  have ok := rl.ok
  unfold binD at eq
  split at eq
  · cases eq; rw [hd.int] at rx; rw [he.int] at ry
    exact op_add pins s σ0 H _ _ v u Q I rx ry ⟨_, _, rfl, rfl, same_of ok q rInt⟩
  · split at eq
    · cases eq; rw [hd.str] at rx; rw [he.str] at ry
      exact op_add_str pins s σ0 H _ _ v u Q I rx ry ⟨_, _, rfl, rfl, by assumption, same_of ok q rStr⟩
    · cases eq
  · split at eq
    · cases eq
      obtain ⟨a, vs, rfl, h1, r1⟩ := hd.lst rl.sl
      obtain ⟨b, ws, rfl, h2, r2⟩ := he.lst rl.sl
      exact op_cat pins s σ0 H _ _ v u Q I rx ry ⟨_, _, _, _, rfl, rfl, h1, h2, by rw [← r1.length, ← r2.length]; assumption, newL ok q (r1.append r2)⟩
    · cases eq
  · split at eq
    · cases eq
      obtain ⟨a, vs, rfl, h1, r1⟩ := hd.tup
      obtain ⟨b, ws, rfl, h2, r2⟩ := he.tup
      refine op_catA pins s σ0 H _ _ v u Q I rx ry ⟨_, _, _, _, rfl, rfl, h1, h2, by rw [← r1.length, ← r2.length]; assumption, fun e => ?_, fun _ e => ?_, fun _ _ => newT ok q (r1.append r2)⟩
      · have e1 := List.eq_nil_of_length_eq_zero (r1.length.trans (by rw [e]; rfl))
        rw [e1, List.nil_append] at q
        exact same_of ok q (by simp only [Rep]; exact ⟨b, ws, rfl, h2, r2⟩)
      · have e1 := List.eq_nil_of_length_eq_zero (r2.length.trans (by rw [e]; rfl))
        rw [e1, List.append_nil] at q
        exact same_of ok q (by simp only [Rep]; exact ⟨a, vs, rfl, h1, r1⟩)
    · cases eq
  · cases eq; rw [hd.int] at rx; rw [he.int] at ry
    exact op_sub pins s σ0 H _ _ v u Q I rx ry ⟨_, _, rfl, rfl, same_of ok q rInt⟩
  · split at eq
    · cases eq; rw [hd.int] at rx; rw [he.int] at ry
      exact op_mulW pins s σ0 H _ _ v u Q I rx ry ⟨_, _, rfl, rfl, by assumption, same_of ok q rInt⟩
    · cases eq
  · split at eq
    · rename_i hc
      cases eq; rw [he.int] at ry
      obtain ⟨a, vs, rfl, h1, r1⟩ := hd.lst rl.sl
      have hl := r1.length
      refine op_rep pins s σ0 H _ _ v u Q I rx ry ⟨_, _, _, rfl, rfl, h1, by omega, by omega, ?_, newL ok q (r1.rep _)⟩
      rw [sizeLine_eq, ← hl]
      exact Nat.le_trans hc.2.2 (by decide)
    · cases eq
  · split at eq
    · rename_i hc
      cases eq; rw [he.int] at ry
      obtain ⟨a, vs, rfl, h1, r1⟩ := hd.tup
      have hl := r1.length
      have hne : vs ≠ [] := fun e => hc.1 (by subst e; exact List.eq_nil_of_length_eq_zero hl)
      rename_i z k _
      have hk : k = 0 ∨ k = 1 ∨ 2 ≤ k := by omega
      rcases hk with rfl | rfl | hk
      · exact op_repT0 pins s σ0 H _ _ v u Q I rx ry ⟨_, _, rfl, rfl, h1, hne, newT ok q Reps.nil⟩
      · refine op_repT1 pins s σ0 H _ _ v u Q I rx ry ⟨_, _, rfl, rfl, h1, same_of ok q ?_⟩
        rw [show (List.replicate (Int.toNat 1) z).flatten = z from by simp [List.replicate]]
        simp only [Rep]; exact ⟨a, vs, rfl, h1, r1⟩
      · exact op_repT pins s σ0 H _ _ v u Q I rx ry ⟨_, _, _, rfl, rfl, h1, hne, hk, hc.2.2.1, by omega, newT ok q (r1.rep _)⟩
    · cases eq
  · split at eq
    · cases eq; rw [hd.int] at rx; rw [he.int] at ry
      exact op_fdivW pins s σ0 H _ _ v u Q I rx ry ⟨_, _, rfl, rfl, by assumption, same_of ok q rInt⟩
    · cases eq
  · split at eq
    · cases eq; rw [hd.int] at rx; rw [he.int] at ry
      exact op_mod pins s σ0 H _ _ v u Q I rx ry ⟨_, _, rfl, rfl, by assumption, same_of ok q rInt⟩
    · cases eq
  · split at eq
    · cases eq; rw [hd.int] at rx; rw [he.int] at ry
      exact op_pow pins s σ0 H _ _ v u Q I rx ry ⟨_, _, rfl, rfl, by assumption, same_of ok q rInt⟩
    · cases eq
  · cases eq

/-- in, by data: at which list or tuple, what is looked for -/
theorem in_ok {k : Nat} (hr : Room k X.A) {pins : List (Addr × Obj)} {s : Shared} {σ0 : St} {H : Hp} {x y : V} {v u : Value} {Q : VK} (I : Inv X pins σ0 H s) (rx : RelV x v) (ry : RelV y u)
    {Z : Ent} {G : Gh} {μ : Sto} {ρ : Env} {hv : List (D × V)} {σ : St} {d e : D} {b : Bool} (rl : Rl X.K Ca Z G μ ρ hv σ H) (hd : Hd X.K G H ρ σ d x) (he : Hd X.K G H ρ σ e y) (hb : inD d e = some b) :
    (Q (.bl b) H → wpAny (model X.prog X.w) X.A (compareOp .In v u) (EP X pins σ0 Q) X.xe s) ∧ (Q (.bl (!b)) H → wpAny (model X.prog X.w) X.A (compareOp .NotIn v u) (EP X pins σ0 Q) X.xe s) := by
  have hu : X.A.units + 65 < cLine := by have := hr.un; omega
  have flat : ∀ {z : V}, Hd X.K G H ρ σ d z → isFlat d = true → z = dV d ∧ flatV z = true := fun {z} h f => by
    rcases h with h | ⟨_, _, _, _, e⟩
    · exact h.flat f
    · rw [e] at f; cases f
  unfold inD at hb
  split at hb
  · split at hb
    · cases hb; rw [hd.str] at rx; rw [he.str] at ry
      exact ⟨fun q => op_in_str pins s σ0 H _ _ v u Q I rx ry ⟨_, _, rfl, rfl, q⟩, fun q => op_notin_str pins s σ0 H _ _ v u Q I rx ry ⟨_, _, rfl, rfl, q⟩⟩
    · cases hb
  · split at hb
    · rename_i hc
      cases hb
      obtain ⟨a, vs, rfl, h2, r2⟩ := he.lst rl.sl
      obtain ⟨e1, f1⟩ := flat hd hc.1
      obtain ⟨e2, f2⟩ := r2.flat hc.2
      subst e1; subst e2
      have hi := inV_flat hc.1 hc.2
      exact ⟨fun q => op_in_seq pins s σ0 H _ _ v u Q I rx ry ⟨_, _, rfl, .inl (.inl (.inl h2)), f1, f2, by rw [hi]; exact q⟩, fun q => op_notIn_seq pins s σ0 H _ _ v u Q I rx ry ⟨_, _, rfl, .inl (.inl (.inl h2)), f1, f2, by rw [hi]; exact q⟩⟩
    · split at hb
      · rename_i hc
        cases hb
        have key : ∀ (l : List D), (pys l).any (fun z => PyData.eqv z d.py) = l.any fun z => eqD z d := fun l => by
          induction l with
          | nil => rfl
          | cons a l ih => simp only [pys, List.any_cons, ih]; rfl
        have hd2 := hd.dp rl.sl hc.1
        have he2 := he.dp rl.sl hc.2
        have hs := hc.2
        unfold shp at hs
        simp only [D.py] at he2 hs
        exact ⟨fun q => op_inD hu pins s σ0 H _ _ v u Q I rx ry ⟨_, _, hd2, he2, hc.1, hs, by rw [key]; exact q⟩, fun q => op_notInD hu pins s σ0 H _ _ v u Q I rx ry ⟨_, _, hd2, he2, hc.1, hs, by rw [key]; exact q⟩⟩
      · cases hb
  · split at hb
    · rename_i hc
      cases hb
      obtain ⟨a, vs, rfl, h2, r2⟩ := he.tup
      obtain ⟨e1, f1⟩ := flat hd hc.1
      obtain ⟨e2, f2⟩ := r2.flat hc.2
      subst e1; subst e2
      have hi := inV_flat hc.1 hc.2
      exact ⟨fun q => op_in_seq pins s σ0 H _ _ v u Q I rx ry ⟨_, _, rfl, .inr h2, f1, f2, by rw [hi]; exact q⟩, fun q => op_notIn_seq pins s σ0 H _ _ v u Q I rx ry ⟨_, _, rfl, .inr h2, f1, f2, by rw [hi]; exact q⟩⟩
    · split at hb
      · rename_i hc
        cases hb
        have key : ∀ (l : List D), (pys l).any (fun z => PyData.eqv z d.py) = l.any fun z => eqD z d := fun l => by
          induction l with
          | nil => rfl
          | cons a l ih => simp only [pys, List.any_cons, ih]; rfl
        have hd2 := hd.dp rl.sl hc.1
        have he2 := he.dp rl.sl hc.2
        have hs := hc.2
        unfold shp at hs
        simp only [D.py] at he2 hs
        obtain ⟨as, r1⟩ := Dp.reads I _ x v hd2 rx
        obtain ⟨bs, r2⟩ := Dp.reads I _ y u he2 ry
        have c1 := SeqAt.canLay_of_shaped hs
        have c2 := SeqAt.canLay_of_shaped hc.1
        exact ⟨fun q => SeqAt.in_tuple_reads r2 r1 c1 c2 (room_in_shaped hc.1 hu) ⟨.bl _, H, I, rfl, by rw [key]; exact q⟩, fun q => SeqAt.notIn_tuple_reads r2 r1 c1 c2 (room_in_shaped hc.1 hu) ⟨.bl _, H, I, rfl, by rw [key]; exact q⟩⟩
      · cases hb
  · cases hb
theorem cmp_ok {k : Nat} (hr : Room k X.A) (o : COp) : OpR X (compareOp o.op) (rOp X.K Ca W fun a b => oM ((cmpD o a b).map fun z => .v (.bl z))) := by
  intro pins s σ0 H x y v u Q I rx ry h
  obtain ⟨Z, G, μ, ρ, hv, σ, d, e, rl, hd, he, q0⟩ := h
  obtain ⟨b, eq, q⟩ : ∃ b, cmpD o d e = some b ∧ Q (.bl b) H := by
    obtain ⟨rv, e1, q1⟩ := q0.oM
    obtain ⟨b, e2, e3⟩ := Option.map_eq_some_iff.mp e1
    rw [← e3] at q1
    exact ⟨b, e2, same_of rl.ok q1 rBl⟩
  unfold cmpD at eq
  split at eq
  · split at eq
    · rename_i hc
      cases eq
      exact op_eqD hr.units pins s σ0 H _ _ v u Q I rx ry ⟨_, _, hd.dp rl.sl hc.1, he.dp rl.sl hc.2, hc.1, hc.2, q⟩
    · split at eq
      · cases eq; rw [hd.str] at rx; rw [he.str] at ry
        exact op_eq pins s σ0 H _ _ v u Q I rx ry ⟨rfl, by simpa using q⟩
      · cases eq
  · split at eq
    · rename_i hc
      cases eq
      exact op_neD hr.units pins s σ0 H _ _ v u Q I rx ry ⟨_, _, hd.dp rl.sl hc.1, he.dp rl.sl hc.2, hc.1, hc.2, q⟩
    · split at eq
      · cases eq; rw [hd.str] at rx; rw [he.str] at ry
        exact op_ne pins s σ0 H _ _ v u Q I rx ry ⟨rfl, by simpa using q⟩
      · cases eq
  · cases eq; rw [hd.int] at rx; rw [he.int] at ry
    exact op_lt pins s σ0 H _ _ v u Q I rx ry ⟨_, _, rfl, rfl, q⟩
  · cases eq; rw [hd.int] at rx; rw [he.int] at ry
    exact op_le pins s σ0 H _ _ v u Q I rx ry ⟨_, _, rfl, rfl, q⟩
  · cases eq; rw [hd.int] at rx; rw [he.int] at ry
    exact op_gt pins s σ0 H _ _ v u Q I rx ry ⟨_, _, rfl, rfl, q⟩
  · cases eq; rw [hd.int] at rx; rw [he.int] at ry
    exact op_ge pins s σ0 H _ _ v u Q I rx ry ⟨_, _, rfl, rfl, q⟩
  · exact (in_ok hr I rx ry rl hd he eq).1 q
  · obtain ⟨b', e1, e2⟩ := Option.map_eq_some_iff.mp eq
    rw [← e2] at q
    exact (in_ok hr I rx ry rl hd he e1).2 q
  · rw [he.non] at ry
    refine op_isN pins s σ0 H _ _ v u Q I rx ry ⟨rfl, ?_⟩
    have : decide (x = .non) = b := by
      cases d with
      | non => rw [hd.non]; simpa using eq
      | bl z => rw [hd.bl]; simpa using eq
      | int z => rw [hd.int]; simpa using eq
      | str z => rw [hd.str]; simpa using eq
      | tup z => obtain ⟨a, vs, rfl, _⟩ := hd.tup; simpa using eq
      | lst z => obtain ⟨a, vs, rfl, _⟩ := hd.lst rl.sl; simpa using eq
      | ref z => obtain ⟨a, rfl, _⟩ := hd.ref; simpa using eq
      | src z => obtain ⟨a, rfl, _⟩ := hd.src; simpa using eq
    rw [this]; exact q
  · rw [he.non] at ry
    refine op_notN pins s σ0 H _ _ v u Q I rx ry ⟨rfl, ?_⟩
    have : (!decide (x = .non)) = b := by
      cases d with
      | non => rw [hd.non]; simpa using eq
      | bl z => rw [hd.bl]; simpa using eq
      | int z => rw [hd.int]; simpa using eq
      | str z => rw [hd.str]; simpa using eq
      | tup z => obtain ⟨a, vs, rfl, _⟩ := hd.tup; simpa using eq
      | lst z => obtain ⟨a, vs, rfl, _⟩ := hd.lst rl.sl; simpa using eq
      | ref z => obtain ⟨a, rfl, _⟩ := hd.ref; simpa using eq
      | src z => obtain ⟨a, rfl, _⟩ := hd.src; simpa using eq
    rw [this]; exact q
  · cases eq; rw [hd.bl] at rx; rw [he.bl] at ry
    exact op_is_bl pins s σ0 H _ _ v u Q I rx ry ⟨_, _, rfl, rfl, q⟩
  · cases eq; rw [hd.bl] at rx; rw [he.bl] at ry
    exact op_isnot_bl pins s σ0 H _ _ v u Q I rx ry ⟨_, _, rfl, rfl, q⟩
  · cases eq
/-- a value's truth -/
theorem tru_of {Z : Ent} {G : Gh} {μ : Sto} {ρ : Env} {hv : List (D × V)} {σ : St} {H : Hp} {K : PySem.W.Frag} {d : D} {x : V} {b : Bool} (rl : Rl K Ca Z G μ ρ hv σ H) (hd : Hd K G H ρ σ d x) (e : truD d = some b) : TruV K x H b := by
  have emp : ∀ {ds : List D} {vs : List V}, Reps K G H ds vs → (!ds.isEmpty) = !vs.isEmpty := fun {ds vs} r => by
    have := r.length
    cases ds <;> cases vs <;> first | rfl | cases this
  cases d with
  | non => rw [hd.non]; cases e; rfl
  | bl z => rw [hd.bl]; cases e; rfl
  | int z => rw [hd.int]; cases e; rfl
  | str z =>
    rw [hd.str]
    have e : (if z.length ≤ sizeLine then some ((z.length : Int) != 0) else none) = some b := e
    split at e
    · cases e; exact ⟨by assumption, rfl⟩
    · cases e
  | tup z => obtain ⟨a, vs, rfl, h, r⟩ := hd.tup; cases e; exact .inr (.inl ⟨vs, h, emp r⟩)
  | lst z => obtain ⟨a, vs, rfl, h, r⟩ := hd.lst rl.sl; cases e; exact .inl ⟨vs, .inl (.inl h), emp r⟩
  | ref z => cases e
  | src z => cases e
end
end J
/-! items, slices, built-in functions, methods by values. -/
namespace J
open PySem L2 PySem.Spec PyProof.Rows
section
variable {K : PySem.W.Frag} {Ca : Str → Addr} {W : WX} {Z : Ent} {G G' : Gh} {μ : Sto} {ρ : Env} {hv : List (D × V)} {σ : St} {H H' : Hp} {Q : VK}
theorem KvR.any : ∀ {ps : List (Key × D)} {vs : List (Key × V)} (k : Key), KvR K G H ps vs → (vs.any fun p => decide (p.1 = k)) = ps.any fun p => decide (p.1 = k)
  | [], _, _, h => by rw [h]; rfl
  | p :: ps, _, k, ⟨v, r, e, _, h⟩ => by rw [e, List.any_cons, List.any_cons, KvR.any k h]
theorem KvR.map {d : D} {v : V} (k : Key) (hd : Rep K G H d v) : ∀ {ps : List (Key × D)} {vs : List (Key × V)}, KvR K G H ps vs → KvR K G H (ps.map fun p => if p.1 = k then (p.1, d) else p) (vs.map fun p => if p.1 = k then (p.1, v) else p)
  | [], _, h => by rw [h]; rfl
  | p :: ps, _, ⟨w, r, e, h1, h⟩ => by
    rw [e, List.map_cons, List.map_cons]
    by_cases c : p.1 = k
    · rw [if_pos c, if_pos c]; exact ⟨v, _, rfl, hd, KvR.map k hd h⟩
    · rw [if_neg c, if_neg c]; exact ⟨w, _, rfl, h1, KvR.map k hd h⟩
theorem KvR.snoc {d : D} {v : V} (k : Key) (hd : Rep K G H d v) : ∀ {ps : List (Key × D)} {vs : List (Key × V)}, KvR K G H ps vs → KvR K G H (ps ++ [(k, d)]) (vs ++ [(k, v)])
  | [], _, h => by rw [h]; exact ⟨v, [], rfl, hd, rfl⟩
  | p :: ps, _, ⟨w, r, e, h1, h⟩ => by rw [e]; exact ⟨w, _, rfl, h1, KvR.snoc k hd h⟩
theorem KvR.put {d : D} {v : V} (k : Key) {ps : List (Key × D)} {vs : List (Key × V)} (h : KvR K G H ps vs) (hd : Rep K G H d v) : KvR K G H (setK ps k d) (putK vs k v) := by
  unfold setK putK
  rw [h.any]
  split
  · exact h.map k hd
  · exact h.snoc k hd
theorem KvR.find : ∀ {ps : List (Key × D)} {vs : List (Key × V)} (k : Key), KvR K G H ps vs → (∀ d, findK ps k = some d → ∃ v, valV vs k = some v ∧ Rep K G H d v) ∧ (findK ps k = none → valV vs k = none)
  | [], _, k, h => by rw [h]; exact ⟨fun d e => (by cases e), fun _ => rfl⟩
  | p :: ps, _, k, ⟨v, r, e, h1, h⟩ => by
    have ih := KvR.find k h
    by_cases c : p.1 = k
    · have e1 : findK (p :: ps) k = some p.2 := by simp [findK, List.find?_cons, c]
      rw [e, valV_pos (p := (p.1, v)) c, e1]
      exact ⟨fun d q => by cases q; exact ⟨v, rfl, h1⟩, fun q => by cases q⟩
    · have e1 : findK (p :: ps) k = findK ps k := by simp [findK, List.find?_cons, c]
      rw [e, valV_neg (p := (p.1, v)) c, e1]
      exact ih
theorem KvR.length : ∀ {ps : List (Key × D)} {vs : List (Key × V)}, KvR K G H ps vs → ps.length = vs.length
  | [], _, h => by rw [h]; rfl
  | p :: ps, _, ⟨v, r, e, _, h⟩ => by rw [e, List.length_cons, List.length_cons, KvR.length h]
theorem Hd.key {d : D} {k : Key} {x : V} (h : Hd K G H ρ σ d x) (e : keyD d = some k) : x = kV k := by
  cases d <;> first | cases e
  · exact h.int
  · exact h.str
theorem Rep.key {d : D} {k : Key} {x : V} (h : Rep K G H d x) (e : keyD d = some k) : x = kV k := Hd.key (ρ := []) (σ := []) (.inl h) e
/-- the cell of a reference -/
theorem Rl.cellAt (rl : Rl K Ca Z G μ ρ hv σ H) {n : Nat} {c : Cell} {x : V} (h : Hd K G H ρ σ (.ref n) x) (e : μ[n]? = some c) : ∃ a, x = .ref a ∧ G.φ[n]? = some a ∧ CellR K Ca G H c a := by
  obtain ⟨a, h1, h2⟩ := h.ref
  exact ⟨a, h1, h2, rl.ok.cell n c a e h2⟩
theorem SqT.shared {a : Addr} {vs : List V} {ds : List D} (h : SqT K H a vs) (r : Reps K G H ds vs) : Rep K G H (.tup ds) (.ref a) := by simp only [Rep]; exact ⟨a, vs, rfl, h, r⟩
theorem atI_map {α β : Type} (f : α → β) {xs : List α} {i : Int} {a : α} (h : atI xs i = some a) : atI (xs.map f) i = some (f a) := by
  unfold atI at h ⊢
  rw [List.length_map]
  cases e : ixN xs.length i with
  | none => rw [e] at h; cases h
  | some j =>
    rw [e] at h
    have h : xs[j]? = some a := h
    show (xs.map f)[j]? = some (f a)
    rw [List.getElem?_map, h]; rfl
theorem Reps.atI {ds : List D} {vs : List V} {i : Int} {d : D} (r : Reps K G H ds vs) (h : L2.atI ds i = some d) : ∃ v, L2.atI vs i = some v ∧ Rep K G H d v := by
  unfold L2.atI at h ⊢
  rw [← r.length]
  cases e : ixN ds.length i with
  | none => rw [e] at h; cases h
  | some j =>
    rw [e] at h
    have h : ds[j]? = some d := h
    obtain ⟨v, h1, h2⟩ := r.get h
    exact ⟨v, h1, h2⟩
end
section
variable {X : Cx} {Ca : Str → Addr} {W : WX}
theorem ix_dct (hu : X.A.units + 1 < cLine) : IxR X (fun x y H Q => ∃ a v, x = .ref a ∧ DGet H a y (some v) ∧ Q v H) := by
  intro value slice pins s σ H x y v u Q I rx ry h hs
  obtain ⟨a, z, rfl, g, q⟩ := h
  cases rx
  exact tail_any (dict_typeIs I g) PySem.F.slot_dict_getitem.lookup (d_getItem hu I g ry fun w' s3 I3 rw' => ⟨z, H, I3, rw', q⟩) hs
theorem idx_ok {k : Nat} (hr : Room k X.A) : IxR X (rOp X.K Ca W idxM) := by
  intro value slice pins s σ0 H x y v u Q I rx ry h hs
  obtain ⟨Z, G, μ, ρ, hv, σ, d, e, rl, hd, he, q⟩ := h
  have ok := rl.ok
  have hu : X.A.units + 1 < cLine := by have := hr.un; omega
  have fin : ∀ {r : D} {m : M RV} {z : V}, m μ = some (.ok (.v r) μ) → At X.K Ca W (RvR X.K ρ σ) σ G μ H m Q → Rep X.K G H r z → Q z H := fun {r m z} e q hz => by
    unfold At at q
    rw [e] at q
    exact q G z H (Ext.refl _ _ _) ok hz
  have plain : ∀ {d : D}, Hd X.K G H ρ σ d x → (∀ r : D, idxD d e = some r → ∀ z, Rep X.K G H r z → Q z H) → (∃ r, idxD d e = some r) → wpAny (model X.prog X.w) X.A (subscriptTail value slice v u) (EP X pins σ0 Q) X.xe s := fun {d} hd f0 ⟨r, er⟩ => by
    have f := f0 r er
    clear f0
    unfold idxD at er
    split at er
    · rw [he.int] at ry
      split at er
      · obtain ⟨a, vs, rfl, h1, r1⟩ := hd.lst rl.sl
        obtain ⟨z, h2, h3⟩ := r1.atI er
        exact ix_list value slice pins s σ0 H _ _ v u Q I rx ry ⟨_, _, _, z, rfl, rfl, .inl (.inl h1), h2, f z h3⟩ hs
      · obtain ⟨a, vs, rfl, h1, r1⟩ := hd.tup
        obtain ⟨z, h2, h3⟩ := r1.atI er
        exact ix_tup value slice pins s σ0 H _ _ v u Q I rx ry ⟨_, _, _, z, rfl, rfl, h1, h2, f z h3⟩ hs
      · split at er
        · obtain ⟨c, h2, h3⟩ := Option.map_eq_some_iff.mp er
          rw [hd.str] at rx
          exact ix_str value slice pins s σ0 H _ _ v u Q I rx ry ⟨_, _, c, rfl, rfl, by assumption, h2, f _ (by rw [← h3]; exact rStr)⟩ hs
        · cases er
      · cases er
    · cases er
  cases d with
  | ref n =>
    cases em : μ[n]? with
    | none => unfold At idxM at q; simp only [em] at q
    | some c =>
      obtain ⟨a, rfl, hn, hc⟩ := rl.cellAt hd em
      cases c with
      | dead => unfold At idxM at q; simp only [em] at q
      | ins _ _ => unfold At idxM at q; simp only [em] at q
      | dct kvs =>
        obtain ⟨vs, h1, h2⟩ := hc
        cases ek : keyD e with
        | none => unfold At idxM at q; simp [em, ek] at q
        | some k =>
          cases ef : findK kvs k with
          | none => unfold At idxM at q; simp [em, ek, ef] at q
          | some d =>
            obtain ⟨z, h3, h4⟩ := (h2.find k).1 d ef
            rw [he.key ek] at ry
            exact ix_dct hu value slice pins s σ0 H _ _ v u Q I rx ry ⟨a, z, rfl, by rw [← h3]; exact DGet.k h1, fin (r := d) (by simp [idxM, em, ek, ef]) q h4⟩ hs
      | lst ds =>
        obtain ⟨vs, h1, r1⟩ := hc
        cases er : idxD (.lst ds) e with
        | none => unfold At idxM at q; simp [em, er] at q
        | some r =>
          cases e with
          | int i =>
            rw [he.int] at ry
            obtain ⟨z, h2, h3⟩ := r1.atI er
            exact ix_list value slice pins s σ0 H _ _ v u Q I rx ry ⟨_, _, _, z, rfl, rfl, .inl (.inl h1), h2, fin (r := r) (by simp [idxM, em, er]) q h3⟩ hs
          | _ => cases er
  | non => exact False.elim (by unfold At idxM at q; cases e <;> exact q)
  | bl _ => exact False.elim (by unfold At idxM at q; cases e <;> exact q)
  | int _ => exact False.elim (by unfold At idxM at q; cases e <;> exact q)
  | src _ => exact False.elim (by unfold At idxM at q; cases e <;> exact q)
  | str z =>
    refine plain hd (fun r er w hw => fin (r := r) (by simp only [idxM, er, Option.map_some]) q hw) ?_
    cases er : idxD (.str z) e with
    | none => unfold At idxM at q; simp only [er, Option.map_none] at q
    | some r => exact ⟨r, rfl⟩
  | tup z =>
    refine plain hd (fun r er w hw => fin (r := r) (by simp only [idxM, er, Option.map_some]) q hw) ?_
    cases er : idxD (.tup z) e with
    | none => unfold At idxM at q; simp only [er, Option.map_none] at q
    | some r => exact ⟨r, rfl⟩
  | lst z =>
    refine plain hd (fun r er w hw => fin (r := r) (by simp only [idxM, er, Option.map_some]) q hw) ?_
    cases er : idxD (.lst z) e with
    | none => unfold At idxM at q; simp only [er, Option.map_none] at q
    | some r => exact ⟨r, rfl⟩

/-! ### slices -/
theorem Reps.cut {K : PySem.W.Frag} {G : Gh} {H : Hp} {ds : List D} {vs : List V} (r : Reps K G H ds vs) (lo hi : Option Int) : Reps K G H (cutD ds lo hi) (cutV vs lo hi) := by
  unfold cutD cutV
  rw [← r.length]
  exact (r.drop _).take _
theorem cutD_whole {α : Type} {xs : List α} {lo hi : Option Int} (h : HT.sIx xs.length 0 lo = 0 ∧ HT.sIx xs.length xs.length hi = xs.length) : cutD xs lo hi = xs := by
  unfold cutD
  rw [h.1, h.2, List.drop_zero, Nat.sub_zero, List.take_length]
def rSc (K : PySem.W.Frag) (Ca : Str → Addr) (W : WX) : V → Option Int → Option Int → Hp → VK → Prop := fun x lo hi H Q =>
  ∃ Z G μ ρ hv σ d, Rl K Ca Z G μ ρ hv σ H ∧ Hd K G H ρ σ d x ∧ At K Ca W (RvR K ρ σ) σ G μ H (oM (slcD d lo hi)) Q
theorem slc_ok : L2.SlR X (rSc X.K Ca W) := by
  intro pins s σ0 H x v vl vu lo hi sl Q I rx hs pl pu h
  obtain ⟨Z, G, μ, ρ, hv, σ, d, rl, hd, q⟩ := h
  obtain ⟨rv, eq, q⟩ := q.oM
  have ok := rl.ok
  cases d with
  | lst ds =>
    cases eq
    obtain ⟨a, vs, rfl, h1, r1⟩ := hd.lst rl.sl
    exact sl_list pins s σ0 H _ v vl vu lo hi sl Q I rx hs pl pu ⟨a, vs, rfl, .inl (.inl h1), newL ok q (r1.cut lo hi)⟩
  | src ns =>
    cases eq
    obtain ⟨a, rfl, h1⟩ := hd.src
    exact sl_list pins s σ0 H _ v vl vu lo hi sl Q I rx hs pl pu ⟨a, _, rfl, h1, newL ok q ((Reps.ints ns).cut lo hi)⟩
  | tup ds =>
    cases eq
    obtain ⟨a, vs, rfl, h1, r1⟩ := hd.tup
    refine sl_tupA pins s σ0 H _ v vl vu lo hi sl Q I rx hs pl pu ⟨a, vs, rfl, h1, fun hw => ?_, fun _ => newT ok q (r1.cut lo hi)⟩
    rw [← r1.length] at hw
    rw [cutD_whole hw] at q
    exact same_of ok q (SqT.shared h1 r1)
  | str z =>
    have eq : (if z.length ≤ sizeLine then some (RV.v (.str (cutS z lo hi))) else none) = some rv := eq
    split at eq
    · cases eq
      rw [hd.str] at rx
      exact sl_str pins s σ0 H _ v vl vu lo hi sl Q I rx hs pl pu ⟨z, rfl, by assumption, same_of ok q rStr⟩
    · cases eq
  | _ => cases eq
end
end J
/-! built-in functions and methods by values. -/
namespace J
open PySem L2 PySem.Spec PyProof.Rows
section
variable {K : PySem.W.Frag} {Ca : Str → Addr} {W : WX} {Z : Ent} {G G' : Gh} {μ : Sto} {ρ : Env} {hv : List (D × V)} {σ : St} {H H' : Hp} {Q : VK}
theorem Hds.nil {xs : List V} (h : Hds K G H ρ σ [] xs) : xs = [] := h
theorem Hds.one {d : D} {xs : List V} (h : Hds K G H ρ σ [d] xs) : ∃ x, xs = [x] ∧ Hd K G H ρ σ d x := by
  obtain ⟨v, r, rfl, h1, h2⟩ := h
  exact ⟨v, by rw [Hds.nil h2], h1⟩
theorem Hds.two {d e : D} {xs : List V} (h : Hds K G H ρ σ [d, e] xs) : ∃ x y, xs = [x, y] ∧ Hd K G H ρ σ d x ∧ Hd K G H ρ σ e y := by
  obtain ⟨v, r, rfl, h1, h2⟩ := h
  obtain ⟨y, rfl, h3⟩ := Hds.one h2
  exact ⟨v, y, rfl, h1, h3⟩
theorem maxI_spec : ∀ {ns : List Int}, 0 < ns.length → maxI ns ∈ ns ∧ ∀ y ∈ ns, y ≤ maxI ns
  | [a], _ => ⟨List.mem_cons_self, fun y h => by rcases List.mem_cons.mp h with rfl | h; exact Int.le_refl _; cases h⟩
  | a :: b :: r, _ => by
    obtain ⟨h1, h2⟩ := maxI_spec (ns := b :: r) (by simp)
    show max a (maxI (b :: r)) ∈ _ ∧ ∀ y ∈ a :: b :: r, y ≤ max a (maxI (b :: r))
    refine ⟨?_, fun y hy => ?_⟩
    · by_cases h : a ≤ maxI (b :: r)
      · rw [Int.max_eq_right h]; exact List.mem_cons_of_mem _ h1
      · rw [Int.max_eq_left (by omega)]; exact List.mem_cons_self
    · rcases List.mem_cons.mp hy with rfl | hy
      · exact Int.le_max_left _ _
      · exact Int.le_trans (h2 y hy) (Int.le_max_right _ _)
theorem minI_spec : ∀ {ns : List Int}, 0 < ns.length → minI ns ∈ ns ∧ ∀ y ∈ ns, minI ns ≤ y
  | [a], _ => ⟨List.mem_cons_self, fun y h => by rcases List.mem_cons.mp h with rfl | h; exact Int.le_refl _; cases h⟩
  | a :: b :: r, _ => by
    obtain ⟨h1, h2⟩ := minI_spec (ns := b :: r) (by simp)
    show min a (minI (b :: r)) ∈ _ ∧ ∀ y ∈ a :: b :: r, min a (minI (b :: r)) ≤ y
    refine ⟨?_, fun y hy => ?_⟩
    · by_cases h : a ≤ minI (b :: r)
      · rw [Int.min_eq_left h]; exact List.mem_cons_self
      · rw [Int.min_eq_right (by omega)]; exact List.mem_cons_of_mem _ h1
    · rcases List.mem_cons.mp hy with rfl | hy
      · exact Int.min_le_left _ _
      · exact Int.le_trans (Int.min_le_right _ _) (h2 y hy)
end
def Blt.fn : Blt → Value
  | .len => .builtin "len" | .max2 => .builtin "max" | .min2 => .builtin "min" | .maxL => .builtin "max" | .minL => .builtin "min" | .sum => .builtin "sum" | .abs => .builtin "abs"
  | .int => .type "int" | .str => .type "str" | .list => .type "list" | .tuple => .type "tuple" | .all => .builtin "all" | .any => .builtin "any"
  | .isBool => .builtin "isinstance" | .isInt => .builtin "isinstance" | .isStr => .builtin "isinstance" | .isTuple => .builtin "isinstance" | .isList => .builtin "isinstance" | .isLT => .builtin "isinstance" | .repr => .builtin "repr"
/-- the second argument of isinstance -/
def Blt.cls : Blt → Option String
  | .isBool => some "bool" | .isInt => some "int" | .isStr => some "str" | .isTuple => some "tuple" | .isList => some "list" | .isLT => some "list, tuple" | .repr => some "repr" | _ => none
section
variable {X : Cx} {Ca : Str → Addr} {W : WX}
/-- the type of a value by its data -/
def tyD : D → String
  | .non => "NoneType" | .bl _ => "bool" | .int _ => "int" | .str _ => "str" | .tup _ => "tuple" | .lst _ => "list" | .ref _ => "" | .src _ => "list"
theorem tyX_of {K : PySem.W.Frag} {Z : Ent} {G : Gh} {μ : Sto} {ρ : Env} {hv : List (D × V)} {σ : St} {H : Hp} {d : D} {x : V} (rl : Rl K Ca Z G μ ρ hv σ H) (hd : Hd K G H ρ σ d x) (n : ∀ k, d ≠ .ref k) : TyX K H x (.type (tyD d)) := by
  cases d with
  | non => rw [hd.non]; exact .base .non
  | bl b => rw [hd.bl]; exact .base (.bl b)
  | int b => rw [hd.int]; exact .base (.int b)
  | str b => rw [hd.str]; exact .base (.str b)
  | tup ds =>
    obtain ⟨a, vs, rfl, h1, r1⟩ := hd.tup
    rcases h1 with (h1 | ⟨o, h1⟩) | ⟨o, its, k, h1, h2, _⟩
    · exact .base (.tup h1)
    · exact .fTuple h1
    · exact .kTuple h1 h2
  | lst ds =>
    obtain ⟨a, vs, rfl, h1, r1⟩ := hd.lst rl.sl
    exact .base (.lst h1)
  | ref k => exact absurd rfl (n k)
  | src ns =>
    obtain ⟨a, rfl, h1⟩ := hd.src
    rcases h1 with (h1 | ⟨o, h1⟩) | ⟨o, its, k, h1, h2, _⟩
    · exact .base (.lst h1)
    · exact .base (.frz h1)
    · exact .kList h1 h2
theorem isi_ok {c : String} {f : D → Bool} (hf : ∀ d, (∀ k, d ≠ .ref k) → kitB (tyD d) c = some (f d)) : CallR X (.builtin "isinstance") (fun xs H Q => ∃ Z G μ ρ hv σ d x, xs = [x, .ty c] ∧ (∀ k, d ≠ .ref k) ∧ Rl X.K Ca Z G μ ρ hv σ H ∧ Hd X.K G H ρ σ d x ∧ At X.K Ca W (RvR X.K ρ σ) σ G μ H (M.pure (.v (.bl (f d)))) Q) := by
  intro pins s σ0 H xs us Q I r h
  obtain ⟨Z, G, μ, ρ, hv, σ, d, x, rfl, n, rl, hd, q⟩ := h
  exact call_isi pins s σ0 H _ us Q I r ⟨x, .ty c, .type (tyD d), .type c, f d, rfl, .ty c, tyX_of rl hd n, kit_ty (hf d n), same_of rl.ok q rBl⟩
theorem blt_ok (hc : X.calm = true) {b : Blt} (hb : b.cls = none) : CallR X b.fn (rCl X.K Ca W (bltM b)) := by
  intro pins s σ0 H xs us Q I r h
  obtain ⟨Z, G, μ, ρ, hv, σ, ds, rl, hds, q⟩ := h
  have ok := rl.ok
  -- len of a cell
  by_cases hr : b = .len ∧ ∃ n, ds = [.ref n]
  · obtain ⟨rfl, n, rfl⟩ := hr
    obtain ⟨x, rfl, hd⟩ := hds.one
    cases em : μ[n]? with
    | none => unfold At bltM at q; simp only [em] at q
    | some c =>
      obtain ⟨a, rfl, hn, hc⟩ := rl.cellAt hd em
      cases c with
      | lst ds =>
        obtain ⟨vs, h1, r1⟩ := hc
        unfold At bltM at q
        simp only [em] at q
        rw [r1.length] at q
        exact call_len pins s σ0 H _ us Q I r ⟨_, vs.length, rfl, .inl ⟨vs, .inl (.inl h1), rfl⟩, q G _ H (Ext.refl _ _ _) ok (rInt (K := X.K) (G := G) (H := H))⟩
      | _ => unfold At bltM at q; simp only [em] at q
  by_cases hr2 : b = .tuple ∧ ∃ n, ds = [.ref n]
  · obtain ⟨rfl, n, rfl⟩ := hr2
    obtain ⟨x, rfl, hd⟩ := hds.one
    cases em : μ[n]? with
    | none => unfold At bltM at q; simp only [em] at q
    | some c =>
      obtain ⟨a, rfl, hn, hc⟩ := rl.cellAt hd em
      cases c with
      | lst ds =>
        obtain ⟨vs, h1, r1⟩ := hc
        have q : At X.K Ca W (RvR X.K ρ σ) σ G μ H (M.pure (.v (.tup ds))) Q := by
          unfold At bltM at q
          simp only [em] at q
          exact q
        exact call_tuple_of pins s σ0 H _ us Q I r ⟨a, vs, rfl, .inl ⟨.inl (.inl h1), newT ok q r1⟩⟩
      | _ => unfold At bltM at q; simp only [em] at q
  by_cases hr3 : b = .list ∧ ∃ n, ds = [.ref n]
  · obtain ⟨rfl, n, rfl⟩ := hr3
    obtain ⟨x, rfl, hd⟩ := hds.one
    cases em : μ[n]? with
    | none => unfold At bltM at q; simp only [em] at q
    | some c =>
      obtain ⟨a, rfl, hn, hc⟩ := rl.cellAt hd em
      cases c with
      | lst ds =>
        obtain ⟨vs, h1, r1⟩ := hc
        have q : At X.K Ca W (RvR X.K ρ σ) σ G μ H (M.pure (.fr ds)) Q := by
          unfold At bltM at q
          simp only [em] at q
          exact q
        exact call_list_of pins s σ0 H _ us Q I r ⟨a, vs, rfl, .inl (.inl (.inl h1)), newL ok q r1⟩
      | _ => unfold At bltM at q; simp only [em] at q
  have q : At X.K Ca W (RvR X.K ρ σ) σ G μ H (oM (bltD b ds)) Q := by
    have e : bltM b ds μ = oM (bltD b ds) μ := by
      unfold bltM
      split
      · exact absurd ⟨rfl, _, rfl⟩ hr
      · exact absurd ⟨rfl, _, rfl⟩ hr2
      · exact absurd ⟨rfl, _, rfl⟩ hr3
      · rfl
    unfold At at q ⊢
    rw [e] at q
    exact q
  obtain ⟨rv, eq, q⟩ := q.oM
  unfold bltD at eq
  split at eq <;> first | cases hb | skip
  · obtain ⟨x, rfl, hd⟩ := hds.one; cases eq
    obtain ⟨a, vs, rfl, h1, r1⟩ := hd.lst rl.sl
    exact call_len pins s σ0 H _ us Q I r ⟨_, vs.length, rfl, .inl ⟨vs, .inl (.inl h1), rfl⟩, same_of ok q (by rw [r1.length]; exact rInt)⟩
  · obtain ⟨x, rfl, hd⟩ := hds.one; cases eq
    obtain ⟨a, vs, rfl, h1, r1⟩ := hd.tup
    exact call_len pins s σ0 H _ us Q I r ⟨_, vs.length, rfl, .inr ⟨vs, h1, rfl⟩, same_of ok q (by rw [r1.length]; exact rInt)⟩
  · obtain ⟨x, rfl, hd⟩ := hds.one; cases eq
    obtain ⟨a, rfl, h1⟩ := hd.src
    exact call_len pins s σ0 H _ us Q I r ⟨_, _, rfl, .inl ⟨_, h1, rfl⟩, same_of ok q (by rw [List.length_map]; exact rInt)⟩
  · obtain ⟨x, rfl, hd⟩ := hds.one
    split at eq
    · cases eq
      rw [hd.str] at r
      exact call_len pins s σ0 H _ us Q I r ⟨_, _, rfl, ⟨by assumption, rfl⟩, same_of ok q rInt⟩
    · cases eq
  · obtain ⟨x, y, rfl, hd, he⟩ := hds.two; cases eq
    rw [hd.int, he.int] at r
    exact call_max2 hc pins s σ0 H _ us Q I r ⟨_, _, rfl, same_of ok q rInt⟩
  · obtain ⟨x, y, rfl, hd, he⟩ := hds.two; cases eq
    rw [hd.int, he.int] at r
    exact call_min2 hc pins s σ0 H _ us Q I r ⟨_, _, rfl, same_of ok q rInt⟩
  · obtain ⟨x, rfl, hd⟩ := hds.one
    obtain ⟨ns, e1, e2⟩ := Option.bind_eq_some_iff.mp eq
    split at e2
    · rename_i hne
      cases e2
      obtain ⟨a, vs, rfl, h1, r1⟩ := hd.lst rl.sl
      rw [r1.ofInts e1] at h1
      obtain ⟨m1, m2⟩ := maxI_spec hne
      exact cr_max hc pins s σ0 H _ us Q I r ⟨_, ns, rfl, .inl (.inl h1), hne, fun m hm hle => same_of ok q (by rw [show maxI ns = m from Int.le_antisymm (hle _ m1) (m2 _ hm)]; exact rInt)⟩
    · cases e2
  · obtain ⟨x, rfl, hd⟩ := hds.one
    obtain ⟨ns, e1, e2⟩ := Option.bind_eq_some_iff.mp eq
    split at e2
    · rename_i hne
      cases e2
      obtain ⟨a, vs, rfl, h1, r1⟩ := hd.lst rl.sl
      rw [r1.ofInts e1] at h1
      obtain ⟨m1, m2⟩ := minI_spec hne
      exact cr_min hc pins s σ0 H _ us Q I r ⟨_, ns, rfl, .inl (.inl h1), hne, fun m hm hle => same_of ok q (by rw [show minI ns = m from Int.le_antisymm (m2 _ hm) (hle _ m1)]; exact rInt)⟩
    · cases e2
  · obtain ⟨x, rfl, hd⟩ := hds.one
    obtain ⟨ns, e1, e2⟩ := Option.map_eq_some_iff.mp eq
    cases e2
    obtain ⟨a, vs, rfl, h1, r1⟩ := hd.lst rl.sl
    rw [r1.ofInts e1] at h1
    exact cr_sum hc pins s σ0 H _ us Q I r ⟨_, ns, rfl, .inl (.inl h1), same_of ok q rInt⟩
  · obtain ⟨x, rfl, hd⟩ := hds.one; cases eq
    rw [hd.int] at r
    exact call_abs pins s σ0 H _ us Q I r ⟨_, rfl, same_of ok q rInt⟩
  · obtain ⟨x, rfl, hd⟩ := hds.one; cases eq
    rw [hd.int] at r
    exact call_int1 pins s σ0 H _ us Q I r (.inl ⟨_, rfl, same_of ok q rInt⟩)
  · obtain ⟨x, rfl, hd⟩ := hds.one; cases eq
    rw [hd.bl] at r
    exact call_int1 pins s σ0 H _ us Q I r (.inr ⟨_, rfl, same_of ok q rInt⟩)
  · obtain ⟨x, rfl, hd⟩ := hds.one
    split at eq
    · obtain ⟨n, e1, e2⟩ := Option.map_eq_some_iff.mp eq
      cases e2
      rw [hd.str] at r
      exact call_int_str pins s σ0 H _ us Q I r ⟨_, n, rfl, e1, by assumption, same_of ok q rInt⟩
    · cases eq
  · obtain ⟨x, rfl, hd⟩ := hds.one
    split at eq
    · cases eq
      rw [hd.int] at r
      exact call_str_int pins s σ0 H _ us Q I r ⟨_, rfl, by assumption, same_of ok q rStr⟩
    · cases eq
  · obtain ⟨x, rfl, hd⟩ := hds.one; cases eq
    obtain ⟨a, vs, rfl, h1, r1⟩ := hd.lst rl.sl
    exact call_list_of pins s σ0 H _ us Q I r ⟨a, vs, rfl, .inl (.inl (.inl h1)), newL ok q r1⟩
  · obtain ⟨x, rfl, hd⟩ := hds.one; cases eq
    obtain ⟨a, vs, rfl, h1, r1⟩ := hd.tup
    exact call_list_of pins s σ0 H _ us Q I r ⟨a, vs, rfl, .inr h1, newL ok q r1⟩
  · obtain ⟨x, rfl, hd⟩ := hds.one
    split at eq
    · rename_i hz
      cases eq
      rw [hd.str] at r
      exact call_list_txt hc pins s σ0 H _ us Q I r ⟨_, rfl, hz, newL ok q (Reps.signs _)⟩
    · cases eq
  · obtain ⟨x, rfl, hd⟩ := hds.one; cases eq
    obtain ⟨a, vs, rfl, h1, r1⟩ := hd.lst rl.sl
    exact call_tuple_of pins s σ0 H _ us Q I r ⟨a, vs, rfl, .inl ⟨.inl (.inl h1), newT ok q r1⟩⟩
  · obtain ⟨x, rfl, hd⟩ := hds.one; cases eq
    obtain ⟨a, vs, rfl, h1, r1⟩ := hd.tup
    exact call_tuple_of pins s σ0 H _ us Q I r ⟨a, vs, rfl, .inr ⟨h1, same_of ok q (SqT.shared h1 r1)⟩⟩
  · obtain ⟨x, rfl, hd⟩ := hds.one
    obtain ⟨ns, e1, e2⟩ := Option.map_eq_some_iff.mp eq
    cases e2
    obtain ⟨a, vs, rfl, h1, r1⟩ := hd.lst rl.sl
    rw [r1.ofBls e1] at h1
    exact cr_all hc pins s σ0 H _ us Q I r ⟨_, ns, rfl, .inl (.inl h1), same_of ok q rBl⟩
  · obtain ⟨x, rfl, hd⟩ := hds.one
    obtain ⟨ns, e1, e2⟩ := Option.map_eq_some_iff.mp eq
    cases e2
    obtain ⟨a, vs, rfl, h1, r1⟩ := hd.lst rl.sl
    rw [r1.ofBls e1] at h1
    exact cr_any hc pins s σ0 H _ us Q I r ⟨_, ns, rfl, .inl (.inl h1), same_of ok q rBl⟩
  · cases eq
theorem kitB_bool : ∀ d : D, (∀ k, d ≠ .ref k) → kitB (tyD d) "bool" = some (isBoolD d) := fun d n => by
  cases d <;> first | exact absurd rfl (n _) | (simp only [tyD, isBoolD, isIntD, isStrD, isTupleD, isListD]; decide +kernel)
theorem kitB_int : ∀ d : D, (∀ k, d ≠ .ref k) → kitB (tyD d) "int" = some (isIntD d) := fun d n => by
  cases d <;> first | exact absurd rfl (n _) | (simp only [tyD, isBoolD, isIntD, isStrD, isTupleD, isListD]; decide +kernel)
theorem kitB_str : ∀ d : D, (∀ k, d ≠ .ref k) → kitB (tyD d) "str" = some (isStrD d) := fun d n => by
  cases d <;> first | exact absurd rfl (n _) | (simp only [tyD, isBoolD, isIntD, isStrD, isTupleD, isListD]; decide +kernel)
theorem kitB_tuple : ∀ d : D, (∀ k, d ≠ .ref k) → kitB (tyD d) "tuple" = some (isTupleD d) := fun d n => by
  cases d <;> first | exact absurd rfl (n _) | (simp only [tyD, isBoolD, isIntD, isStrD, isTupleD, isListD]; decide +kernel)
theorem kitB_list : ∀ d : D, (∀ k, d ≠ .ref k) → kitB (tyD d) "list" = some (isListD d) := fun d n => by
  cases d <;> first | exact absurd rfl (n _) | (simp only [tyD, isBoolD, isIntD, isStrD, isTupleD, isListD]; decide +kernel)
end
end J
/-! expressions. -/
namespace J
open PySem L2 PySem.Spec PyProof.Rows
theorem M.bind_assoc {α β γ : Type} (m : M α) (f : α → M β) (h : β → M γ) : M.bind (M.bind m f) h = M.bind m fun a => M.bind (f a) h := by
  funext μ
  unfold M.bind
  cases m μ with
  | none => rfl
  | some r => cases r <;> rfl
theorem M.pure_bind {α β : Type} (a : α) (f : α → M β) : M.bind (M.pure a) f = f a := rfl
theorem oM_some {α : Type} (a : α) : oM (some a) = M.pure a := rfl
theorem oM_none {α : Type} : (oM none : M α) = stuck := rfl
theorem M.bind_pure {α : Type} (m : M α) : M.bind m M.pure = m := by
  funext μ
  unfold M.bind
  cases m μ with
  | none => rfl
  | some r => cases r <;> rfl
theorem M.bind_stuck {α β : Type} (f : α → M β) : M.bind stuck f = stuck := rfl
theorem M.ite_bind {α β : Type} (k : Bool) (a b : M α) (f : α → M β) : M.bind (if k = true then a else b) f = if k = true then M.bind a f else M.bind b f := by cases k <;> rfl
end J
namespace L2
open PySem PySem.Spec PyProof.Rows
theorem PE.weak {X : Cx} {e : Expr} {t t' : TE} (h : PE X e t) (w : ∀ σ H Q, t' σ H Q → t σ H Q) : PE X e t' := ⟨fun pins s σ H Q I q => h.run pins s σ H Q I (w σ H Q q)⟩
theorem PT.weak {X : Cx} {e : Expr} {t t' : TT} (h : PT X e t) (w : ∀ σ H Q, t' σ H Q → t σ H Q) : PT X e t' := ⟨fun pins s σ H Q I q => h.run pins s σ H Q I (w σ H Q q)⟩
theorem PW.weak {X : Cx} {e : Expr} {t t' : TT} (h : PW X e t) (w : ∀ σ H Q, t' σ H Q → t σ H Q) : PW X e t' := ⟨fun wh pins s σ H Q I q => h.run wh pins s σ H Q I (w σ H Q q)⟩
theorem PA.weak {X : Cx} {e : List Expr} {t t' : TA} (h : PA X e t) (w : ∀ σ H Q, t' σ H Q → t σ H Q) : PA X e t' := ⟨fun p pins s σ H Q I q => h.run p pins s σ H Q I (w σ H Q q)⟩
theorem PO.weak {X : Cx} {e : Option Expr} {t t' : TO} (h : PO X e t) (w : ∀ σ H Q, t' σ H Q → t σ H Q) : PO X e t' := ⟨fun pins s σ H Q I q => h.run pins s σ H Q I (w σ H Q q)⟩

end L2
namespace J
open PySem L2 PySem.Spec PyProof.Rows
theorem At.shift {K : PySem.W.Frag} {Ca : Str → Addr} {W : WX} {σ : St} {G G3 : Gh} {μ : Sto} {H H3 : Hp} {α β : Type} {R : Gh → Hp → Hp → α → β → Prop} {m : M α} {Q : β → Hp → Prop} (h : At K Ca W R σ G μ H m Q) (mono : Mono R) (e3 : Ext G μ H G3 μ H3) : At K Ca W R σ G3 μ H3 m Q := by
  unfold At at h ⊢
  cases q : m μ with
  | none => rw [q] at h; exact h
  | some r =>
    rw [q] at h
    cases r with
    | exc x μ3 => exact fun G4 H4 c d e4 => h G4 H4 c d (e3.trans e4)
    | ok a μ3 => exact fun G4 w H4 e4 ok4 r4 => h G4 w H4 (e3.trans e4) ok4 (mono _ _ _ _ _ _ e3.old r4)
section
variable {X : Cx} {Ca : Str → Addr} {W : WX} {C : Calls} {g : GT} {a b c : Expr} {A B A2 : E} {pos : Pos}
theorem pe_bin (o : BOp) (ha : PE X a (tE X.K Ca W C g A)) (hb : PE X b (tE X.K Ca W C g B)) : PE X (.BinOp a o.op b pos) (tE X.K Ca W C g (.bin o A B)) :=
  (pe_op (bin_ok (X := X) (Ca := Ca) (W := W) o) ha hb).weak fun σ H Q ⟨Z, G, μ, ρ, hv, rl, h⟩ => by
    simp only [evalE] at h
    refine tE_then RvR.mono rl h fun x v G1 μ1 H1 _ rl1 _ _ h => ?_
    refine tE_then RvR.mono rl1 h fun y u G2 μ2 H2 _ rl2 _ _ h => ?_
    exact ⟨Z, G2, μ2, ρ, _, σ, x.d, y.d, rl2, rl2.hv _ (List.mem_cons_of_mem _ List.mem_cons_self), rl2.hv _ List.mem_cons_self, h⟩
theorem pe_neg (ha : PE X a (tE X.K Ca W C g A)) : PE X (.UnaryOp .USub a pos) (tE X.K Ca W C g (.neg A)) :=
  (pe_un un_neg ha).weak fun σ H Q ⟨Z, G, μ, ρ, hv, rl, h⟩ => by
    simp only [evalE] at h
    refine tE_then RvR.mono rl h fun x v G1 μ1 H1 _ rl1 _ _ h => ?_
    obtain ⟨r, e, h⟩ := h.oM
    obtain ⟨i, e1, rfl⟩ := Option.map_eq_some_iff.mp e
    have hx := rl1.hv _ List.mem_cons_self
    cases e2 : x.d with
    | int j => rw [e2] at e1 hx; cases e1; exact ⟨_, hx.int, same_of rl1.ok h rInt⟩
    | _ => rw [e2] at e1; cases e1
theorem pe_nott (ha : PE X a (tE X.K Ca W C g A)) : PE X (.UnaryOp .Not a pos) (tE X.K Ca W C g (.not A)) :=
  (pe_notT ha).weak fun σ H Q ⟨Z, G, μ, ρ, hv, rl, h⟩ => by
    simp only [evalE] at h
    refine tE_then RvR.mono rl h fun x v G1 μ1 H1 _ rl1 _ _ h => ?_
    obtain ⟨k, e, h⟩ := h.oMb
    exact ⟨k, tru_of rl1 (rl1.hv _ List.mem_cons_self) e, same_of rl1.ok h rBl⟩
theorem pe_cmpp {k : Nat} (hr : Room k X.A) (o : COp) (ha : PE X a (tE X.K Ca W C g A)) (hb : PE X b (tE X.K Ca W C g B)) (hm : behindInMarks o.op b = false) : PE X (.Compare a [o.op] [b] pos) (tE X.K Ca W C g (.cmp o A B)) :=
  (pe_cmpR (cmp_ok (Ca := Ca) (W := W) hr o) ha hb hm).weak fun σ H Q ⟨Z, G, μ, ρ, hv, rl, h⟩ => by
    simp only [evalE] at h
    refine tE_then RvR.mono rl h fun x v G1 μ1 H1 _ rl1 _ _ h => ?_
    refine tE_then RvR.mono rl1 h fun y u G2 μ2 H2 _ rl2 _ _ h => ?_
    exact ⟨Z, G2, μ2, ρ, _, σ, x.d, y.d, rl2, rl2.hv _ (List.mem_cons_of_mem _ List.mem_cons_self), rl2.hv _ List.mem_cons_self, h⟩
theorem oM_map {α β : Type} (o : Option α) (f : α → β) : oM (o.map f) = M.bind (oM o) fun a => M.pure (f a) := by cases o <;> rfl
theorem M.bind_pure' {α : Type} (m : M α) : (M.bind m fun a => M.pure a) = m := M.bind_pure m
theorem evalT_cmp (o : COp) (ρ : Env) : evalT C g (.cmp o A B) ρ = M.bind (evalE C g A ρ) fun x => M.bind (evalE C g B ρ) fun y => oM (cmpD o x.d y.d) := by
  unfold evalT
  simp only [evalE, M.bind_assoc, oM_map, M.pure_bind, RV.d, truD, oM_some, M.bind_pure']
theorem at_test {W' : WX} {G : Gh} {μ : Sto} {σ : St} {H : Hp} {K : PySem.W.Frag} {ρ : Env} {o : Option Bool} {Q : Bool → Hp → Prop} (h : At K Ca W' RB σ G μ H (oM o) Q) : At K Ca W' (RvR K ρ σ) σ G μ H (oM (o.map fun z => .v (.bl z))) fun x H1 => ∃ k, x = .bl k ∧ Q k H1 := by
  cases o with
  | none => exact h
  | some b => exact fun G1 v H1 e ok r => ⟨b, by simpa only [RvR, Rep] using r, h G1 b H1 e ok rfl⟩
theorem pt_cmpp {k : Nat} (hr : Room k X.A) (o : COp) (ha : PE X a (tE X.K Ca W C g A)) (hb : PE X b (tE X.K Ca W C g B)) (hm : behindInMarks o.op b = false) : PT X (.Compare a [o.op] [b] pos) (tT X.K Ca W C g (.cmp o A B)) :=
  (pt_cmpR (cmp_ok (Ca := Ca) (W := W) hr o) ha hb hm).weak fun σ H Q ⟨Z, G, μ, ρ, hv, rl, h⟩ => by
    rw [evalT_cmp] at h
    refine tE_then RB.mono rl h fun x v G1 μ1 H1 _ rl1 _ _ h => ?_
    refine tE_then RB.mono rl1 h fun y u G2 μ2 H2 _ rl2 _ _ h => ?_
    exact ⟨Z, G2, μ2, ρ, _, σ, x.d, y.d, rl2, rl2.hv _ (List.mem_cons_of_mem _ List.mem_cons_self), rl2.hv _ List.mem_cons_self, at_test h⟩
theorem evalE_chain (o p : COp) (ρ : Env) : evalE C g (.chain o p A B A2) ρ = M.bind (evalE C g A ρ) fun x => M.bind (evalE C g B ρ) fun y => M.bind (oM (cmpD o x.d y.d)) fun k =>
    if k = true then M.bind (evalE C g A2 ρ) fun z => oM ((cmpD p y.d z.d).map fun b => .v (.bl b)) else M.pure (.v (.bl false)) := by simp only [evalE]
theorem evalT_chain (o p : COp) (ρ : Env) : evalT C g (.chain o p A B A2) ρ = M.bind (evalE C g A ρ) fun x => M.bind (evalE C g B ρ) fun y => M.bind (oM (cmpD o x.d y.d)) fun k =>
    if k = true then M.bind (evalE C g A2 ρ) fun z => oM (cmpD p y.d z.d) else M.pure false := by
  unfold evalT
  rw [evalE_chain]
  simp only [M.bind_assoc, M.ite_bind, oM_map, M.pure_bind, RV.d, truD, oM_some, M.bind_pure']
theorem chain_core {o p : COp} {α β : Type} {R' : Gh → Hp → Hp → α → β → Prop} (mono : Mono R') {Q : β → Hp → Prop} {T : VK} {fin : Option Bool → M α} {σ : St} {H : Hp} {Z : Ent} {G : Gh} {μ : Sto} {ρ : Env} {hv : List (D × V)}
    (rl : Rl X.K Ca Z G μ ρ hv σ H) (h : At X.K Ca W R' σ G μ H (M.bind (evalE C g A ρ) fun x => M.bind (evalE C g B ρ) fun y => M.bind (oM (cmpD o x.d y.d)) fun k => if k = true then M.bind (evalE C g A2 ρ) fun z => fin (cmpD p y.d z.d) else fin (some false)) Q)
    (hf : ∀ G μ H ob, At X.K Ca W R' σ G μ H (fin ob) Q → At X.K Ca W (RvR X.K ρ σ) σ G μ H (oM (ob.map fun z => .v (.bl z))) T) :
    tChain (rOp X.K Ca W fun a b => oM ((cmpD o a b).map fun z => .v (.bl z))) (rOp X.K Ca W fun a b => oM ((cmpD p a b).map fun z => .v (.bl z))) (tE X.K Ca W C g A) (tE X.K Ca W C g B) (tE X.K Ca W C g A2) σ H T := by
  refine tE_then mono rl h fun x v G1 μ1 H1 _ rl1 _ _ h => ?_
  refine tE_then mono rl1 h fun y u G2 μ2 H2 _ rl2 _ _ h => ?_
  obtain ⟨k, e, h⟩ := h.oMb
  refine ⟨Z, G2, μ2, ρ, _, σ, x.d, y.d, rl2, rl2.hv _ (List.mem_cons_of_mem _ List.mem_cons_self), rl2.hv _ List.mem_cons_self, ?_⟩
  show At X.K Ca W (RvR X.K ρ σ) σ G2 μ2 H2 (oM ((cmpD o x.d y.d).map fun z => RV.v (D.bl z))) _
  rw [e]
  intro G3 z H3 e3 ok3 r3
  have ez : z = .bl k := by simpa only [RvR, Rep] using r3
  have rl3 := rl2.step e3 ok3
  refine ⟨k, ez, ?_⟩
  cases k with
  | false =>
    rw [if_neg Bool.false_ne_true] at h ⊢
    have h := hf _ _ _ _ h
    exact h G3 _ H3 e3 ok3 (rBl (K := X.K) (G := G3) (H := H3))
  | true =>
    rw [if_pos rfl] at h ⊢
    have h := h.shift mono e3
    refine tE_then mono rl3 h fun z w G4 μ4 H4 _ rl4 _ _ h => ?_
    exact ⟨Z, G4, μ4, ρ, _, σ, y.d, z.d, rl4, rl4.hv _ (List.mem_cons_of_mem _ List.mem_cons_self), rl4.hv _ List.mem_cons_self, hf _ _ _ _ h⟩
theorem pe_chainn {k : Nat} (hr : Room k X.A) (o p : COp) (ha : PE X a (tE X.K Ca W C g A)) (hb : PE X b (tE X.K Ca W C g B)) (hc : PE X c (tE X.K Ca W C g A2)) (hm : lastMarks [o.op, p.op] [b, c] = false) : PE X (.Compare a [o.op, p.op] [b, c] pos) (tE X.K Ca W C g (.chain o p A B A2)) :=
  (pe_chain (cmp_ok (Ca := Ca) (W := W) hr o) (cmp_ok (Ca := Ca) (W := W) hr p) ha hb hc hm).weak fun σ H Q ⟨Z, G, μ, ρ, hv, rl, h⟩ => by
    rw [evalE_chain] at h
    exact chain_core (fin := fun ob => oM (ob.map fun b => .v (.bl b))) RvR.mono rl h fun G μ H ob h => h
theorem pt_chainn {k : Nat} (hr : Room k X.A) (o p : COp) (ha : PE X a (tE X.K Ca W C g A)) (hb : PE X b (tE X.K Ca W C g B)) (hc : PE X c (tE X.K Ca W C g A2)) (hm : lastMarks [o.op, p.op] [b, c] = false) : PT X (.Compare a [o.op, p.op] [b, c] pos) (tT X.K Ca W C g (.chain o p A B A2)) :=
  (pt_chain (cmp_ok (Ca := Ca) (W := W) hr o) (cmp_ok (Ca := Ca) (W := W) hr p) ha hb hc hm).weak fun σ H Q ⟨Z, G, μ, ρ, hv, rl, h⟩ => by
    rw [evalT_chain] at h
    exact chain_core (fin := oM) RB.mono rl h fun G μ H ob h => at_test h
theorem hold_ok {ρ : Env} {σ : St} {G G' : Gh} {μ μ' : Sto} {H H' H2 : Hp} {rv : RV} {x : V} {hv : List (D × V)} {Z : Ent} (rl : Rl X.K Ca Z G' μ' ρ ((rv.d, x) :: hv) σ H') (v : ∀ d, rv.val = some d → Rep X.K G' H' d x) (b : ∀ i ds, rv = .bo i ds → ρ[i]? = some (.own ds) ∧ σ[i]? = some (some x)) :
    RvR X.K ρ σ G' H2 H' rv.hold x := by
  cases rv with
  | v d => exact v d rfl
  | fr ds => exact v _ rfl
  | bo i ds => exact b i ds rfl
theorem pe_andd {rest : List Expr} (ha : PE X a (tE X.K Ca W C g A)) (hb : PE X (.BoolOp .And (b :: rest) pos) (tE X.K Ca W C g B)) : PE X (.BoolOp .And (a :: b :: rest) pos) (tE X.K Ca W C g (.and A B)) :=
  (pe_andT ha hb).weak fun σ H Q ⟨Z, G, μ, ρ, hv, rl, h⟩ => by
    simp only [evalE] at h
    refine tE_then RvR.mono rl h fun x v G1 μ1 H1 _ rl1 v1 b1 h => ?_
    obtain ⟨k, e, h⟩ := h.oMb
    refine ⟨k, tru_of rl1 (rl1.hv _ List.mem_cons_self) e, ?_⟩
    cases k with
    | true => exact ⟨Z, G1, μ1, ρ, _, rl1, h⟩
    | false => exact h.pure rl1.ok (hold_ok (G := G) (μ := μ) (H := H) rl1 v1 b1)
theorem pe_orr {rest : List Expr} (ha : PE X a (tE X.K Ca W C g A)) (hb : PE X (.BoolOp .Or (b :: rest) pos) (tE X.K Ca W C g B)) : PE X (.BoolOp .Or (a :: b :: rest) pos) (tE X.K Ca W C g (.or A B)) :=
  (pe_orT ha hb).weak fun σ H Q ⟨Z, G, μ, ρ, hv, rl, h⟩ => by
    simp only [evalE] at h
    refine tE_then RvR.mono rl h fun x v G1 μ1 H1 _ rl1 v1 b1 h => ?_
    obtain ⟨k, e, h⟩ := h.oMb
    refine ⟨k, tru_of rl1 (rl1.hv _ List.mem_cons_self) e, ?_⟩
    cases k with
    | false => exact ⟨Z, G1, μ1, ρ, _, rl1, h⟩
    | true => exact h.pure rl1.ok (hold_ok (G := G) (μ := μ) (H := H) rl1 v1 b1)
theorem truD_hold (x : RV) : truD x.hold.d = truD x.d := by cases x <;> rfl
theorem evalT_not (ρ : Env) : evalT C g (.not A) ρ = M.bind (evalT C g A ρ) fun k => M.pure (!k) := by
  unfold evalT
  simp only [evalE, M.bind_assoc]
  rfl
theorem evalT_and (ρ : Env) : evalT C g (.and A B) ρ = M.bind (evalT C g A ρ) fun k => if k = true then evalT C g B ρ else M.pure false := by
  unfold evalT
  simp only [evalE, M.bind_assoc, M.ite_bind, M.pure_bind, truD_hold]
  congr 1; funext x
  cases e : truD x.d with
  | none => rfl
  | some k => cases k <;> rfl
theorem evalT_or (ρ : Env) : evalT C g (.or A B) ρ = M.bind (evalT C g A ρ) fun k => if k = true then M.pure true else evalT C g B ρ := by
  unfold evalT
  simp only [evalE, M.bind_assoc, M.ite_bind, M.pure_bind, truD_hold]
  congr 1; funext x
  cases e : truD x.d with
  | none => rfl
  | some k => cases k <;> rfl
/-- a test, and what hangs on it -/
theorem tT_then {α β : Type} {R' : Gh → Hp → Hp → α → β → Prop} {e : E} {k : Bool → M α} {Q : β → Hp → Prop} {T : Bool → Hp → Prop} {K : PySem.W.Frag} {σ : St} {H : Hp} {Z : Ent} {G : Gh} {μ : Sto} {ρ : Env} {hv : List (D × V)} (mono : Mono R') (rl : Rl K Ca Z G μ ρ hv σ H) (h : At K Ca W R' σ G μ H (M.bind (evalT C g e ρ) k) Q)
    (next : ∀ b G1 μ1 H1, Ext G μ H G1 μ1 H1 → Rl K Ca Z G1 μ1 ρ hv σ H1 → At K Ca W R' σ G1 μ1 H1 (k b) Q → T b H1) : tT K Ca W C g e σ H T := by
  refine ⟨Z, G, μ, ρ, hv, rl, (At.bind (R := RB) mono h).imp fun G1 μ1 H1 b c e1 ok1 r1 f => ?_⟩
  obtain ⟨b', G2, μ2, e2, ok2, r2, q⟩ := f c r1
  cases r2
  exact next c G2 μ2 H1 e2 (rl.step e2 ok2) (q G2 e2 ok2)
theorem pt_nott (ha : PT X a (tT X.K Ca W C g A)) : PT X (.UnaryOp .Not a pos) (tT X.K Ca W C g (.not A)) :=
  (pt_not ha).weak fun σ H Q ⟨Z, G, μ, ρ, hv, rl, h⟩ => by
    rw [evalT_not] at h
    exact tT_then RB.mono rl h fun b G1 μ1 H1 _ rl1 h => h.pure rl1.ok rfl
theorem pw_andd {rest : List Expr} (ha : PT X a (tT X.K Ca W C g A)) (hb : PW X (.BoolOp .And (b :: rest) pos) (tT X.K Ca W C g B)) : PW X (.BoolOp .And (a :: b :: rest) pos) (tT X.K Ca W C g (.and A B)) :=
  (pw_and ha hb).weak fun σ H Q ⟨Z, G, μ, ρ, hv, rl, h⟩ => by
    rw [evalT_and] at h
    refine tT_then RB.mono rl h fun k G1 μ1 H1 _ rl1 h => ?_
    cases k with
    | true => exact ⟨Z, G1, μ1, ρ, hv, rl1, h⟩
    | false => exact h.pure rl1.ok rfl
theorem pw_orr {rest : List Expr} (ha : PT X a (tT X.K Ca W C g A)) (hb : PW X (.BoolOp .Or (b :: rest) pos) (tT X.K Ca W C g B)) : PW X (.BoolOp .Or (a :: b :: rest) pos) (tT X.K Ca W C g (.or A B)) :=
  (pw_or ha hb).weak fun σ H Q ⟨Z, G, μ, ρ, hv, rl, h⟩ => by
    rw [evalT_or] at h
    refine tT_then RB.mono rl h fun k G1 μ1 H1 _ rl1 h => ?_
    cases k with
    | false => exact ⟨Z, G1, μ1, ρ, hv, rl1, h⟩
    | true => exact h.pure rl1.ok rfl
/-- any other value, by its truth -/
theorem pt_tru (ha : PE X a (tE X.K Ca W C g A)) (he : ∀ whole, isTrue a X.env whole = (do let v ← whole; standAt a.pos; holding [v] (truthy v))) : PT X a (tT X.K Ca W C g A) :=
  (pt_truth ha he).weak fun σ H Q ⟨Z, G, μ, ρ, hv, rl, h⟩ => by
    unfold evalT at h
    refine tE_then RB.mono rl h fun x v G1 μ1 H1 _ rl1 _ _ h => ?_
    obtain ⟨k, e, h⟩ := h.oM
    exact ⟨k, tru_of rl1 (rl1.hv _ List.mem_cons_self) e, h.pure rl1.ok rfl⟩
theorem pe_itee (hc : PT X c (tT X.K Ca W C g A2)) (ha : PE X a (tE X.K Ca W C g A)) (hb : PE X b (tE X.K Ca W C g B)) : PE X (.IfExp c a b pos) (tE X.K Ca W C g (.ite A2 A B)) :=
  (pe_ifExp hc ha hb).weak fun σ H Q ⟨Z, G, μ, ρ, hv, rl, h⟩ => by
    have e : evalE C g (.ite A2 A B) ρ = M.bind (evalT C g A2 ρ) fun k => if k = true then evalE C g A ρ else evalE C g B ρ := by
      unfold evalT
      simp only [evalE, M.bind_assoc]
    rw [e] at h
    refine tT_then RvR.mono rl h fun k G1 μ1 H1 _ rl1 h => ?_
    cases k with
    | true => exact ⟨Z, G1, μ1, ρ, hv, rl1, h⟩
    | false => exact ⟨Z, G1, μ1, ρ, hv, rl1, h⟩
theorem pe_lit {l : Lit} : (match l with | .non => PE X (.Constant .none j pos) (tE X.K Ca W C g (.lit l)) | .bl b => PE X (.Constant (.bool b) j pos) (tE X.K Ca W C g (.lit l)) | .int i => PE X (.Constant (.int i) j pos) (tE X.K Ca W C g (.lit l)) | .str x => PE X (.Constant (.str x) j pos) (tE X.K Ca W C g (.lit l))) := by
  have key : ∀ {v : V} {σ : St} {H : Hp} {Q : VK}, (∀ G H, Rep X.K G H (litD l) v) → (tE X.K Ca W C g (.lit l)) σ H Q → Q v H := fun {v σ H Q} r ⟨Z, G, μ, ρ, hv, rl, h⟩ => by
    simp only [evalE] at h
    exact same_of rl.ok h (r _ _)
  cases l with
  | non => exact pe_non.weak fun σ H Q h => key (fun G H => by simp only [litD, Rep]) h
  | bl b => exact pe_bl.weak fun σ H Q h => key (fun G H => rBl) h
  | int i => exact pe_int.weak fun σ H Q h => key (fun G H => rInt) h
  | str x => exact pe_str.weak fun σ H Q h => key (fun G H => rStr) h
theorem pe_varr {i : Nat} {x : Str} (hN : X.N[i]? = some x) (hv : Vis X.env.scope x) (hd : (x == ("__debug__" : Str)) = false) (hcd : (x == ("__classdict__" : Str)) = false) : PE X (.Name x pos) (tE X.K Ca W C g (.var i)) :=
  (pe_var hN hv hd hcd).weak fun σ H Q ⟨Z, G, μ, ρ, hv, rl, h⟩ => by
    simp only [evalE] at h
    cases e : ρ[i]? with
    | none => rw [e] at h; exact False.elim h
    | some s =>
      rw [e] at h
      cases s with
      | none => exact False.elim h
      | val d =>
        obtain ⟨v, e1, r⟩ := rl.sl.val i d e
        exact ⟨v, e1, same_of rl.ok h r⟩
      | own ds =>
        obtain ⟨a, vs, e1, _⟩ := rl.sl.own i ds e
        exact ⟨_, e1, h.pure rl.ok ⟨e, e1⟩⟩
theorem pe_globb {n : Nat} {x : Str} {u : Value} {v : V} {d : D} (hg : Gl X x) (hm : X.mg x = some u) (r : RelV v u) (e : atT g n = some d) (hr : ∀ G H, Rep X.K G H d v) (hd : (x == ("__debug__" : Str)) = false) : PE X (.Name x pos) (tE X.K Ca W C g (.glob n)) :=
  (pe_glob hg hm r hd).weak fun σ H Q ⟨Z, G, μ, ρ, hv, rl, h⟩ => by
    simp only [evalE, e] at h
    exact same_of rl.ok h (hr _ _)
end
end J
/-! displays, items, calls. -/
namespace J
open PySem L2 PySem.Spec PyProof.Rows
section
variable {X : Cx} {Ca : Str → Addr} {W : WX} {C : Calls} {g : GT} {a b c : Expr} {A B A2 : E} {pos : Pos} {es : List Expr} {Es : List E}
theorem val_of {rv : RV} {α β : Type} {R : Gh → Hp → Hp → α → β → Prop} {K : PySem.W.Frag} {σ : St} {G : Gh} {μ : Sto} {H : Hp} {k : D → M α} {Q : β → Hp → Prop} (h : At K Ca W R σ G μ H (M.bind (needV rv) k) Q) : ∃ d, rv.val = some d ∧ At K Ca W R σ G μ H (k d) Q := At.oMb h
theorem pa_nill : PA X [] (tAs X.K Ca W C g []) := pa_nil.weak fun σ H Q ⟨Z, G, μ, ρ, hv, rl, h⟩ => by
  simp only [evalEs] at h
  exact h.pure rl.ok Reps.nil
theorem pa_conss (ha : PE X a (tE X.K Ca W C g A)) (hr : PA X es (tAs X.K Ca W C g Es)) (hs : starEach (a :: es) X.env = (false, eval a X.env) :: starEach es X.env) : PA X (a :: es) (tAs X.K Ca W C g (A :: Es)) :=
  (pa_cons ha hr hs).weak fun σ H Q ⟨Z, G, μ, ρ, hv, rl, h⟩ => by
    simp only [evalEs] at h
    refine tE_then RRs.mono rl h fun x v G1 μ1 H1 _ rl1 v1 _ h => ?_
    obtain ⟨d, ed, h⟩ := val_of h
    refine ⟨Z, G1, μ1, ρ, _, rl1, (At.bind (R := RRs X.K) RRs.mono h).imp fun G2 μ2 H2 ds vs e2 ok2 r2 f => ?_⟩
    obtain ⟨ds', G3, μ3, e3, ok3, r3, q⟩ := f vs r2
    exact (q G3 e3 ok3).pure ok3 (Reps.cons ((e3.stay rl1.ok).rep _ _ (v1 d ed)) r3)
theorem Hds.step {K : PySem.W.Frag} {G G' : Gh} {H H' : Hp} {μ μ' : Sto} {ρ : Env} {σ : St} (k : Okk K Ca G μ H) (e : Ext G μ H G' μ' H') : ∀ {ds : List D} {vs : List V}, Hds K G H ρ σ ds vs → Hds K G' H' ρ σ ds vs
  | [], _, h => h
  | _ :: _, _, ⟨v, r, e1, h1, h2⟩ => ⟨v, r, e1, h1.step k e, Hds.step k e h2⟩
theorem pb_nill : PA X [] (tBs X.K Ca W C g []) := pa_nil.weak fun σ H Q ⟨Z, G, μ, ρ, hv, rl, h⟩ => by
  simp only [evalBs] at h
  exact h.pure rl.ok rfl
theorem pb_conss (ha : PE X a (tE X.K Ca W C g A)) (hr : PA X es (tBs X.K Ca W C g Es)) (hs : starEach (a :: es) X.env = (false, eval a X.env) :: starEach es X.env) : PA X (a :: es) (tBs X.K Ca W C g (A :: Es)) :=
  (pa_cons ha hr hs).weak fun σ H Q ⟨Z, G, μ, ρ, hv, rl, h⟩ => by
    simp only [evalBs] at h
    refine tE_then RBs.mono rl h fun x v G1 μ1 H1 _ rl1 v1 _ h => ?_
    refine ⟨Z, G1, μ1, ρ, _, rl1, (At.bind (R := RBs X.K ρ σ) RBs.mono h).imp fun G2 μ2 H2 ds vs e2 ok2 r2 f => ?_⟩
    obtain ⟨ds', G3, μ3, e3, ok3, r3, q⟩ := f vs r2
    exact (q G3 e3 ok3).pure ok3 ⟨v, vs, rfl, (rl1.hv _ List.mem_cons_self).step rl1.ok e3, r3⟩
/-- arguments, and what hangs on them -/
theorem tAs_then {α β : Type} {R' : Gh → Hp → Hp → α → β → Prop} {k : List D → M α} {Q : β → Hp → Prop} {T : List V → Hp → Prop} {K : PySem.W.Frag} {σ : St} {H : Hp} {Z : Ent} {G : Gh} {μ : Sto} {ρ : Env} {hv : List (D × V)} (mono : Mono R') (rl : Rl K Ca Z G μ ρ hv σ H) (h : At K Ca W R' σ G μ H (M.bind (evalEs C g Es ρ) k) Q)
    (next : ∀ ds vs G1 μ1 H1, Ext G μ H G1 μ1 H1 → Rl K Ca Z G1 μ1 ρ hv σ H1 → Reps K G1 H1 ds vs → At K Ca W R' σ G1 μ1 H1 (k ds) Q → T vs H1) : tAs K Ca W C g Es σ H T := by
  refine ⟨Z, G, μ, ρ, hv, rl, (At.bind (R := RRs K) mono h).imp fun G1 μ1 H1 ds vs e1 ok1 r1 f => ?_⟩
  obtain ⟨ds', G2, μ2, e2, ok2, r2, q⟩ := f vs r1
  exact next ds' vs G2 μ2 H1 e2 (rl.step e2 ok2) r2 (q G2 e2 ok2)
theorem tBs_then {α β : Type} {R' : Gh → Hp → Hp → α → β → Prop} {k : List D → M α} {Q : β → Hp → Prop} {T : List V → Hp → Prop} {K : PySem.W.Frag} {σ : St} {H : Hp} {Z : Ent} {G : Gh} {μ : Sto} {ρ : Env} {hv : List (D × V)} (mono : Mono R') (rl : Rl K Ca Z G μ ρ hv σ H) (h : At K Ca W R' σ G μ H (M.bind (evalBs C g Es ρ) k) Q)
    (next : ∀ ds vs G1 μ1 H1, Ext G μ H G1 μ1 H1 → Rl K Ca Z G1 μ1 ρ hv σ H1 → Hds K G1 H1 ρ σ ds vs → At K Ca W R' σ G1 μ1 H1 (k ds) Q → T vs H1) : tBs K Ca W C g Es σ H T := by
  refine ⟨Z, G, μ, ρ, hv, rl, (At.bind (R := RBs K ρ σ) mono h).imp fun G1 μ1 H1 ds vs e1 ok1 r1 f => ?_⟩
  obtain ⟨ds', G2, μ2, e2, ok2, r2, q⟩ := f vs r1
  exact next ds' vs G2 μ2 H1 e2 (rl.step e2 ok2) r2 (q G2 e2 ok2)
theorem pe_tupp {x1 : Nat} (h : PA X es (tAs X.K Ca W C g Es)) : PE X (.Tuple es x1 pos) (tE X.K Ca W C g (.tup Es)) :=
  (pe_tup h).weak fun σ H Q ⟨Z, G, μ, ρ, hv, rl, h⟩ => by
    simp only [evalE] at h
    refine tAs_then RvR.mono rl h fun ds vs G1 μ1 H1 _ rl1 r1 h => ?_
    obtain ⟨hl, h⟩ := h.ite
    exact ⟨by rw [← r1.length]; exact hl, newT rl1.ok h r1⟩
theorem pe_lstt (h : PA X es (tAs X.K Ca W C g Es)) : PE X (.List es pos) (tE X.K Ca W C g (.lst Es)) :=
  (pe_lst h).weak fun σ H Q ⟨Z, G, μ, ρ, hv, rl, h⟩ => by
    simp only [evalE] at h
    refine tAs_then RvR.mono rl h fun ds vs G1 μ1 H1 _ rl1 r1 h => ?_
    obtain ⟨hl, h⟩ := h.ite
    exact ⟨by rw [← r1.length]; exact hl, newL rl1.ok h r1⟩
/-- a new cell -/
theorem newCell {K : PySem.W.Frag} {G G1 : Gh} {μ μ1 : Sto} {H H1 : Hp} {c : Cell} {p : Addr} (e : Ext G μ H G1 μ1 H1) (ok : Okk K Ca G1 μ1 H1) (hp : H p = none) (h1 : H1 p ≠ none) (hf : ¬ G1.Fz p) (hφ : ∀ n : Nat, G1.φ[n]? ≠ some p)
    (hc : CellR K Ca ⟨G1.φ ++ [p], G1.Fz⟩ H1 c p) (hd : c ≠ .dead) : Ext G μ H ⟨G1.φ ++ [p], G1.Fz⟩ (μ1 ++ [c]) H1 ∧ Okk K Ca ⟨G1.φ ++ [p], G1.Fz⟩ (μ1 ++ [c]) H1 := by
  have at_ : ∀ {n : Nat} {a : Addr}, (G1.φ ++ [p])[n]? = some a → G1.φ[n]? = some a ∨ (n = G1.φ.length ∧ a = p) := fun {n a} h => by
    by_cases hn : n < G1.φ.length
    · rw [List.getElem?_append_left hn] at h; exact .inl h
    · rw [List.getElem?_append_right (by omega)] at h
      by_cases h0 : n - G1.φ.length = 0
      · rw [h0] at h; simp at h; exact .inr ⟨by omega, h.symm⟩
      · rw [List.getElem?_eq_none (by simp; omega)] at h; cases h
  have ct : ∀ {n : Nat} {a : Cell}, (μ1 ++ [c])[n]? = some a → μ1[n]? = some a ∨ (n = μ1.length ∧ a = c) := fun {n a} h => by
    by_cases hn : n < μ1.length
    · rw [List.getElem?_append_left hn] at h; exact .inl h
    · rw [List.getElem?_append_right (by omega)] at h
      by_cases h0 : n - μ1.length = 0
      · rw [h0] at h; simp at h; exact .inr ⟨by omega, h.symm⟩
      · rw [List.getElem?_eq_none (by simp; omega)] at h; cases h
  have lt : ∀ {n : Nat} {a : Addr}, G1.φ[n]? = some a → n < G1.φ.length := fun {n a} h => by
    obtain ⟨h, _⟩ := List.getElem?_eq_some_iff.mp h; exact h
  have ltm : ∀ {n : Nat} {a : Cell}, μ1[n]? = some a → n < μ1.length := fun {n a} h => by
    obtain ⟨h, _⟩ := List.getElem?_eq_some_iff.mp h; exact h
  have lvv : ∀ b, Lv ⟨G1.φ ++ [p], G1.Fz⟩ (μ1 ++ [c]) b → Lv G1 μ1 b ∨ b = p := fun b ⟨n, cc, h1, h2, h3⟩ => by
    rcases at_ h1 with h1 | ⟨h1, h4⟩
    · rcases ct h2 with h2 | ⟨h2, _⟩
      · exact .inl ⟨n, cc, h1, h2, h3⟩
      · have := lt h1; have := ok.len; omega
    · exact .inr h4
  have st : Stay K G1 H1 ⟨G1.φ ++ [p], G1.Fz⟩ H1 := ⟨fun n a h => by
    show (G1.φ ++ [p])[n]? = some a
    rw [List.getElem?_append_left (lt h)]; exact h, fun _ h => h, fun _ _ h _ => h, fun _ _ h _ => h⟩
  refine ⟨⟨fun n a h => st.pre n a (e.pre n a h), fun n a h => ?_, e.fz, e.fzn, e.keep, e.old, fun b h => ?_⟩, ⟨?_, fun n m a h1 h2 => ?_, fun n a h => ?_, fun b h f => ?_, ok.fex, fun n cc a q1 q2 => ?_⟩⟩
  · rcases at_ h with h | ⟨_, rfl⟩
    · exact e.new n a h
    · exact .inr hp
  · rcases lvv b h with h | rfl
    · exact e.lv b h
    · exact .inr hp
  · show (μ1 ++ [c]).length = (G1.φ ++ [p]).length
    rw [List.length_append, List.length_append, ok.len]; rfl
  · rcases at_ h1 with q1 | ⟨q1, q2⟩ <;> rcases at_ h2 with q3 | ⟨q3, q4⟩
    · exact ok.nd n m a q1 q3
    · rw [q4] at q1; exact absurd q1 (hφ n)
    · rw [q2] at q3; exact absurd q3 (hφ m)
    · omega
  · rcases at_ h with h | ⟨_, rfl⟩
    · exact ok.ex n a h
    · exact h1
  · rcases lvv b h with h | rfl
    · exact ok.nfz b h f
    · exact hf f
  · rcases at_ q2 with q2 | ⟨q2, q3⟩
    · rcases ct q1 with q1 | ⟨q1, _⟩
      · exact (ok.cell n cc a q1 q2).step st fun _ h => h
      · have := lt q2; have := ok.len; omega
    · rcases ct q1 with q1 | ⟨_, q4⟩
      · have := ltm q1; have := ok.len; omega
      · rw [q3, q4]; exact hc
theorem pe_cell (h : PE X a (tE X.K Ca W C g A)) : PE X a (tE X.K Ca W C g (.cell A)) :=
  h.weak fun σ H Q ⟨Z, G, μ, ρ, hv, rl, h⟩ => ⟨Z, G, μ, ρ, hv, rl, by
    simp only [evalE] at h
    unfold At M.bind at h
    unfold At
    cases e : evalE C g A ρ μ with
    | none => rw [e] at h; exact h
    | some r =>
      rw [e] at h
      cases r with
      | exc x μ1 => exact h
      | ok rv μ1 =>
        intro G1 v H1 e1 ok1 r1
        cases rv with
        | v d => exact False.elim h
        | bo i ds => exact False.elim h
        | fr ds =>
          obtain ⟨p, vs, rfl, h0, h1, h2, h3, h4⟩ := r1
          have st : Stay X.K G1 H1 ⟨G1.φ ++ [p], G1.Fz⟩ H1 := ⟨fun n a h => by
            show (G1.φ ++ [p])[n]? = some a
            obtain ⟨hl, _⟩ := List.getElem?_eq_some_iff.mp h
            rw [List.getElem?_append_left hl]; exact h, fun _ h => h, fun _ _ h _ => h, fun _ _ h _ => h⟩
          obtain ⟨e2, ok2⟩ := newCell (Ca := Ca) (c := .lst ds) e1 ok1 h0 (by rw [h1]; intro z; cases z) h3 h4 ⟨vs, h1, st.reps _ _ h2⟩ (by intro z; cases z)
          have h : ∀ G2 v H2, Ext G μ H G2 (μ1 ++ [.lst ds]) H2 → Okk X.K Ca G2 (μ1 ++ [.lst ds]) H2 → RvR X.K ρ σ G2 H H2 (.v (.ref μ1.length)) v → Q v H2 := h
          refine h _ _ _ e2 ok2 ?_
          show Rep X.K ⟨G1.φ ++ [p], G1.Fz⟩ H1 (.ref μ1.length) (.ref p)
          simp only [Rep]
          refine ⟨p, rfl, ?_⟩
          show (G1.φ ++ [p])[μ1.length]? = some p
          rw [ok1.len, List.getElem?_append_right (Nat.le_refl _)]
          simp⟩
theorem pe_idxx {k : Nat} (hr : Room k X.A) (ha : PE X a (tE X.K Ca W C g A)) (hb : PE X b (tE X.K Ca W C g B)) (hs : PlainIx b) : PE X (.Subscript a b pos) (tE X.K Ca W C g (.idx A B)) :=
  (pe_ix (idx_ok (X := X) (Ca := Ca) (W := W) hr) ha hb hs).weak fun σ H Q ⟨Z, G, μ, ρ, hv, rl, h⟩ => by
    simp only [evalE] at h
    refine tE_then RvR.mono rl h fun x v G1 μ1 H1 _ rl1 _ _ h => ?_
    refine tE_then RvR.mono rl1 h fun y u G2 μ2 H2 _ rl2 _ _ h => ?_
    exact ⟨Z, G2, μ2, ρ, _, σ, x.d, y.d, rl2, rl2.hv _ (List.mem_cons_of_mem _ List.mem_cons_self), rl2.hv _ List.mem_cons_self, h⟩
theorem po_nonee : PO X none (tO X.K Ca W C g none) := po_none.weak fun σ H Q ⟨Z, G, μ, ρ, hv, rl, h⟩ => by
  simp only [evalO] at h
  exact h.pure rl.ok rfl
theorem po_somee (ha : PE X a (tE X.K Ca W C g A)) : PO X (some a) (tO X.K Ca W C g (some A)) := (po_some ha).weak fun σ H Q ⟨Z, G, μ, ρ, hv, rl, h⟩ => by
  simp only [evalO] at h
  refine tE_then RO.mono rl h fun x v G1 μ1 H1 _ rl1 _ _ h => ?_
  obtain ⟨i, e, h⟩ := h.oMb
  have hx := rl1.hv _ List.mem_cons_self
  cases e2 : x.d with
  | int j => rw [e2] at e hx; cases e; exact ⟨_, hx.int, h.pure rl1.ok rfl⟩
  | _ => rw [e2] at e; cases e
theorem tO_then {α β : Type} {R' : Gh → Hp → Hp → α → β → Prop} {o : Option E} {k : Option Int → M α} {Q : β → Hp → Prop} {T : Option Int → Hp → Prop} {K : PySem.W.Frag} {σ : St} {H : Hp} {Z : Ent} {G : Gh} {μ : Sto} {ρ : Env} {hv : List (D × V)} (mono : Mono R') (rl : Rl K Ca Z G μ ρ hv σ H) (h : At K Ca W R' σ G μ H (M.bind (evalO C g o ρ) k) Q)
    (next : ∀ i G1 μ1 H1, Ext G μ H G1 μ1 H1 → Rl K Ca Z G1 μ1 ρ hv σ H1 → At K Ca W R' σ G1 μ1 H1 (k i) Q → T i H1) : tO K Ca W C g o σ H T := by
  refine ⟨Z, G, μ, ρ, hv, rl, (At.bind (R := RO) mono h).imp fun G1 μ1 H1 ds vs e1 ok1 r1 f => ?_⟩
  obtain ⟨ds', G2, μ2, e2, ok2, r2, q⟩ := f vs r1
  cases r2
  exact next vs G2 μ2 H1 e2 (rl.step e2 ok2) (q G2 e2 ok2)
theorem pe_slcc {lo hi : Option Expr} {Lo Hi : Option E} {p2 : Pos} (ha : PE X a (tE X.K Ca W C g A)) (hl : PO X lo (tO X.K Ca W C g Lo)) (hh : PO X hi (tO X.K Ca W C g Hi)) : PE X (.Subscript a (.Slice lo hi none p2) pos) (tE X.K Ca W C g (.slc A Lo Hi)) :=
  (pe_slice (slc_ok (X := X) (Ca := Ca) (W := W)) ha hl hh).weak fun σ H Q ⟨Z, G, μ, ρ, hv, rl, h⟩ => by
    simp only [evalE] at h
    refine tE_then RvR.mono rl h fun x v G1 μ1 H1 _ rl1 _ _ h => ?_
    refine tO_then RvR.mono rl1 h fun l G2 μ2 H2 _ rl2 h => ?_
    refine tO_then RvR.mono rl2 h fun u G3 μ3 H3 _ rl3 h => ?_
    exact ⟨Z, G3, μ3, ρ, _, σ, x.d, rl3, rl3.hv _ List.mem_cons_self, h⟩
theorem pe_revv {k : Nat} {p1 p2 p3 : Pos} (ha : PE X a (tE X.K Ca W C g A)) : PE X (.Subscript a (.Slice none none (some (.UnaryOp .USub (.Constant (.int 1) k p1) p2)) p3) pos) (tE X.K Ca W C g (.rev A)) :=
  (pe_revL ha).weak fun σ H Q ⟨Z, G, μ, ρ, hv, rl, h⟩ => by
    simp only [evalE] at h
    refine tE_then RvR.mono rl h fun x v G1 μ1 H1 _ rl1 _ _ h => ?_
    have hx := rl1.hv _ List.mem_cons_self
    cases e2 : x.d with
    | lst ds =>
      rw [e2] at h hx
      obtain ⟨p, vs, rfl, h1, r1⟩ := hx.lst rl1.sl
      exact ⟨p, vs, rfl, .inl (.inl h1), newL rl1.ok h r1.reverse⟩
    | _ => rw [e2] at h; exact False.elim h
/-- a def's promise, by the evaluation of its call -/
def spI (K : PySem.W.Frag) (Ca : Str → Addr) (c : List D → M RV) : Sp := fun vs H Q E => ∃ G μ ds, Okk K Ca G μ H ∧ Reps K G H ds vs ∧ At K Ca (fun cls d _ H => E cls d H) (RvR K [] []) [] G μ H (c ds) Q
theorem spI_of {K : PySem.W.Frag} {ρ : Env} {σ : St} {G : Gh} {μ : Sto} {H : Hp} {ds : List D} {vs : List V} {c : List D → M RV} {Q : VK} (ok : Okk K Ca G μ H) (r : Reps K G H ds vs) (h : At K Ca W (RvR K ρ σ) σ G μ H (c ds) Q) : spI K Ca c vs H Q (fun cls d H => W cls d σ H) := by
  refine ⟨G, μ, ds, ok, r, ?_⟩
  unfold At at h ⊢
  cases q : c ds μ with
  | none => rw [q] at h; exact h
  | some rr =>
    rw [q] at h
    cases rr with
    | exc x μ3 => exact h
    | ok a μ3 => exact fun G4 w H4 e4 ok4 r4 => h G4 w H4 e4 ok4 (by
      cases a with
      | v d => exact r4
      | fr ds => exact r4
      | bo i ds => exact absurd r4.1 (by simp))
theorem pe_calll {x : Str} {p : Pos} {k : Nat} {f : Nat} {fa : Addr} {fd : FuncData} {ps : List Str} (tk : Takes X W) (F : FnG X.prog X.w X.K X.mg X.base (L2.CX X.prog X.w) k fa fd ps (spI X.K Ca (C f))) (gd : NoG X.A) (hr : Room k X.A) (hg : Gl X x) (hm : X.mg x = some (.ref fa)) (hk : PySem.W.keepIn X.K (.ref fa) = true) (hb : Binds X.K fd ps [])
    (ha : PA X (a :: es) (tAs X.K Ca W C g (A :: Es))) (hdb : (x == ("__debug__" : Str)) = false) (he : starEach (a :: es) X.env = (false, eval a X.env) :: starEach es X.env) (hpl : (backTo pos (starEach es X.env)).any (·.1) = false) :
    PE X (.Call (.Name x p) (a :: es) [] pos) (tE X.K Ca W C g (.call f (A :: Es))) :=
  (pe_callG F gd hr hg hm hk hb (E := WE W) (fun σ => passAt tk σ) ha hdb he hpl).weak fun σ H Q ⟨Z, G, μ, ρ, hv, rl, h⟩ => by
    simp only [evalE] at h
    refine tAs_then RvR.mono rl h fun ds vs G1 μ1 H1 _ rl1 r1 h => ?_
    cases ds with
    | nil =>
      refine spI_of (ρ := ρ) rl1.ok r1 ?_
      have h : At X.K Ca W (RvR X.K ρ σ) σ G1 μ1 H1 (noex (C f [])) Q := h
      unfold At noex at h
      unfold At
      cases q : C f [] μ1 with
      | none => rw [q] at h; exact h
      | some rr =>
        rw [q] at h
        cases rr with
        | exc x μ3 => exact False.elim h
        | ok a μ3 => exact h
    | cons d ds => exact spI_of rl1.ok r1 h
theorem pe_calll0 {x : Str} {p : Pos} {k : Nat} {f : Nat} {fa : Addr} {fd : FuncData} {ps : List Str} (F : FnG X.prog X.w X.K X.mg X.base (L2.CX X.prog X.w) k fa fd ps (spI X.K Ca (C f))) (gd : NoG X.A) (hr : Room k X.A) (hg : Gl X x) (hm : X.mg x = some (.ref fa)) (hk : PySem.W.keepIn X.K (.ref fa) = true) (hb : Binds X.K fd ps [])
    (hdb : (x == ("__debug__" : Str)) = false) : PE X (.Call (.Name x p) [] [] pos) (tE X.K Ca W C g (.call f [])) :=
  (pe_callG0 F gd hr hg hm hk hb (E := fun _ => E0) (fun σ pins H s e s2 I h => passL pins σ H s e s2 I h) hdb).weak fun σ H Q ⟨Z, G, μ, ρ, hv, rl, h⟩ => by
    simp only [evalE, evalEs] at h
    have h : At X.K Ca W (RvR X.K ρ σ) σ G μ H (noex (C f [])) Q := h
    refine ⟨G, μ, [], rl.ok, Reps.nil, ?_⟩
    unfold At noex at h
    unfold At
    cases q : C f [] μ with
    | none => rw [q] at h; exact h
    | some rr =>
      rw [q] at h
      cases rr with
      | exc x μ3 => exact False.elim h
      | ok a μ3 => exact fun G4 w H4 e4 ok4 r4 => h G4 w H4 e4 ok4 (by
        cases a with
        | v d => exact r4
        | fr ds => exact r4
        | bo i ds => exact absurd r4.1 (by simp))
end
end J
/-! built-in functions and methods, called. -/
namespace J
open PySem L2 PySem.Spec PyProof.Rows
section
variable {X : Cx} {Ca : Str → Addr} {W : WX} {C : Calls} {g : GT} {a b c : Expr} {A B A2 : E} {pos : Pos} {es : List Expr} {Es : List E}
/-- the built-in function of a name -/
def Blt.id? : Blt → Option String
  | .len => some "len" | .max2 => some "max" | .min2 => some "min" | .maxL => some "max" | .minL => some "min" | .sum => some "sum" | .abs => some "abs" | .all => some "all" | .any => some "any" | _ => none
def Blt.ty? : Blt → Option String
  | .int => some "int" | .str => some "str" | .list => some "list" | .tuple => some "tuple" | _ => none
theorem Blt.fn_id {b : Blt} {i : String} (h : b.id? = some i) : b.fn = .builtin i ∧ b.cls = none := by cases b <;> cases h <;> exact ⟨rfl, rfl⟩
theorem Blt.fn_ty {b : Blt} {i : String} (h : b.ty? = some i) : b.fn = .type i ∧ b.cls = none := by cases b <;> cases h <;> exact ⟨rfl, rfl⟩
theorem bs_call {b : Blt} {σ : St} {H : Hp} {Q : VK} (h : tE X.K Ca W C g (.blt b Es) σ H Q) : tCB (rCl X.K Ca W (bltM b)) (tBs X.K Ca W C g Es) σ H Q := by
  obtain ⟨Z, G, μ, ρ, hv, rl, h⟩ := h
  simp only [evalE] at h
  exact tBs_then RvR.mono rl h fun ds vs G1 μ1 H1 _ rl1 r1 h => ⟨Z, G1, μ1, ρ, _, σ, ds, rl1, r1, h⟩
theorem pe_bltf {b : Blt} {i : String} {x : Str} {p : Pos} (hc : X.calm = true) (hi : b.id? = some i) (hg : Gl X x) (hm : X.mg x = none) (hv : bootBuiltins x = some (.builtin i)) (ha : PA X (a :: es) (tBs X.K Ca W C g Es)) (hn : x ≠ "__name__") (hdb : (x == ("__debug__" : Str)) = false)
    (he : starEach (a :: es) X.env = (false, eval a X.env) :: starEach es X.env) (hpl : (backTo pos (starEach es X.env)).any (·.1) = false) : PE X (.Call (.Name x p) (a :: es) [] pos) (tE X.K Ca W C g (.blt b Es)) :=
  (pe_callB (by rw [← (Blt.fn_id hi).1]; exact blt_ok (W := W) (Ca := Ca) hc (Blt.fn_id hi).2) hg hm hv ha hn hdb he hpl).weak fun σ H Q h => bs_call h
theorem pe_bltt {b : Blt} {i : String} {x : Str} {p : Pos} (hc : X.calm = true) (hi : b.ty? = some i) (hg : Gl X x) (hm : X.mg x = none) (hv : bootBuiltins x = some (.type i)) (ha : PA X (a :: es) (tBs X.K Ca W C g Es)) (hn : x ≠ "__name__") (hdb : (x == ("__debug__" : Str)) = false)
    (he : starEach (a :: es) X.env = (false, eval a X.env) :: starEach es X.env) (hpl : (backTo pos (starEach es X.env)).any (·.1) = false) : PE X (.Call (.Name x p) (a :: es) [] pos) (tE X.K Ca W C g (.blt b Es)) :=
  (pe_callTy (by rw [← (Blt.fn_ty hi).1]; exact blt_ok (W := W) (Ca := Ca) hc (Blt.fn_ty hi).2) hg hm hv ha hn hdb he hpl).weak fun σ H Q h => bs_call h
/-- isinstance(e, T) -/
theorem pa_isi {y : Str} {t : String} {p : Pos} (ha : PE X a (tE X.K Ca W C g A)) (hg : Gl X y) (hm : X.mg y = none) (hv : bootBuiltins y = some (.type t)) (hn : y ≠ "__name__") (hdb : (y == ("__debug__" : Str)) = false)
    (n1 : starEach [a, .Name y p] X.env = (false, eval a X.env) :: starEach [.Name y p] X.env) (n2 : starEach [.Name y p] X.env = (false, eval (.Name y p) X.env) :: starEach [] X.env) :
    PA X [a, .Name y p] fun σ H Q => tE X.K Ca W C g A σ H fun x H1 => Q [x, .ty t] H1 :=
  (pa_cons ha (pa_cons (pe_bltn (v := .ty t) hg hm hv rfl hn hdb) pa_nil n2) n1).weak fun σ H Q h => h
def isD : Blt → Option (String × (D → Bool))
  | .isBool => some ("bool", isBoolD) | .isInt => some ("int", isIntD) | .isStr => some ("str", isStrD) | .isTuple => some ("tuple", isTupleD) | .isList => some ("list", isListD) | _ => none
theorem isD_kit {b : Blt} {t : String} {f : D → Bool} (h : isD b = some (t, f)) : ∀ d, (∀ k, d ≠ .ref k) → kitB (tyD d) t = some (f d) := by
  cases b <;> cases h
  · exact kitB_bool
  · exact kitB_int
  · exact kitB_str
  · exact kitB_tuple
  · exact kitB_list
theorem isD_blt {b : Blt} {t : String} {f : D → Bool} (h : isD b = some (t, f)) (d : D) : bltD b [d] = isiD d (f d) := by
  cases b <;> cases h <;> rfl
theorem bltM_isi {b : Blt} {t : String} {f : D → Bool} (h : isD b = some (t, f)) (d : D) : bltM b [d] = oM (isiD d (f d)) := by
  funext μ
  unfold bltM
  split
  · cases h
  · cases h
  · cases h
  · rw [isD_blt h]
theorem pe_isii {b : Blt} {t : String} {f : D → Bool} {x y : Str} {p p2 : Pos} (hi : isD b = some (t, f)) (hg : Gl X x) (hm : X.mg x = none) (hv : bootBuiltins x = some (.builtin "isinstance")) (hg2 : Gl X y) (hm2 : X.mg y = none) (hv2 : bootBuiltins y = some (.type t))
    (ha : PE X a (tE X.K Ca W C g A)) (hn : x ≠ "__name__") (hdb : (x == ("__debug__" : Str)) = false) (hn2 : y ≠ "__name__") (hdb2 : (y == ("__debug__" : Str)) = false)
    (n1 : starEach [a, .Name y p2] X.env = (false, eval a X.env) :: starEach [.Name y p2] X.env) (n2 : starEach [.Name y p2] X.env = (false, eval (.Name y p2) X.env) :: starEach [] X.env)
    (hpl : (backTo pos (starEach [.Name y p2] X.env)).any (·.1) = false) : PE X (.Call (.Name x p) [a, .Name y p2] [] pos) (tE X.K Ca W C g (.blt b [A])) :=
  (pe_callB (isi_ok (X := X) (Ca := Ca) (W := W) (isD_kit hi)) hg hm hv (pa_isi ha hg2 hm2 hv2 hn2 hdb2 n1 n2) hn hdb n1 hpl).weak fun σ H Q ⟨Z, G, μ, ρ, hv, rl, h⟩ => by
    simp only [evalE, evalBs, M.bind_assoc, M.pure_bind] at h
    refine tE_then RvR.mono rl h fun x v G1 μ1 H1 _ rl1 _ _ h => ?_
    rw [bltM_isi hi] at h
    have hn : ∀ k, x.d ≠ .ref k := fun k e => by rw [e] at h; exact h
    refine ⟨Z, G1, μ1, ρ, _, σ, x.d, v, rfl, hn, rl1, rl1.hv _ List.mem_cons_self, ?_⟩
    have e : isiD x.d (f x.d) = some (.v (.bl (f x.d))) := by
      cases q : x.d <;> first | rfl | exact absurd q (hn _)
    rw [e] at h
    exact h
/-- list(reversed(x)) -/
theorem pe_lrev {p p2 pos2 : Pos} (hc : X.calm = true) (hg : Gl X "list") (hm : X.mg "list" = none) (hg2 : Gl X "reversed") (hm2 : X.mg "reversed" = none) (ha : PE X a (tE X.K Ca W C g A))
    (n1 : starEach [a] X.env = (false, eval a X.env) :: starEach [] X.env) (n2 : starEach [.Call (.Name "reversed" p2) [a] [] pos2] X.env = (false, eval (.Call (.Name "reversed" p2) [a] [] pos2) X.env) :: starEach [] X.env) :
    PE X (.Call (.Name "list" p) [.Call (.Name "reversed" p2) [a] [] pos2] [] pos) (tE X.K Ca W C g (.rev A)) :=
  (pe_lstRev hc hg hm hg2 hm2 ha n1 n2).weak fun σ H Q ⟨Z, G, μ, ρ, hv, rl, h⟩ => by
    simp only [evalE] at h
    refine tE_then RvR.mono rl h fun x v G1 μ1 H1 _ rl1 _ _ h => ?_
    have hx := rl1.hv _ List.mem_cons_self
    cases e2 : x.d with
    | lst ds =>
      rw [e2] at h hx
      obtain ⟨p, vs, rfl, h1, r1⟩ := hx.lst rl1.sl
      exact ⟨p, vs, rfl, .inl (.inl h1), newL rl1.ok h r1.reverse⟩
    | _ => rw [e2] at h; exact False.elim h

/-! ### methods -/
theorem meth_eq {m : Mth} {ρ : Env} : evalE C g (.meth m A [B]) ρ = M.bind (evalE C g A ρ) fun x => M.bind (chkM m x.d) fun _ => M.bind (evalE C g B ρ) fun y => methM m x.d [y.d] := by
  simp only [evalE, evalBs, M.bind_assoc, M.pure_bind]
theorem meth_eq0 {m : Mth} {ρ : Env} : evalE C g (.meth m A []) ρ = M.bind (evalE C g A ρ) fun x => M.bind (chkM m x.d) fun _ => methM m x.d [] := by
  simp only [evalE, evalBs, M.bind_assoc, M.pure_bind]
theorem meth_eq2 {m : Mth} {ρ : Env} : evalE C g (.meth m A [B, A2]) ρ = M.bind (evalE C g A ρ) fun x => M.bind (chkM m x.d) fun _ => M.bind (evalE C g B ρ) fun y => M.bind (evalE C g A2 ρ) fun z => methM m x.d [y.d, z.d] := by
  simp only [evalE, evalBs, M.bind_assoc, M.pure_bind]
theorem methM_of {m : Mth} {o : D} {ds : List D} (h : ∀ n, o ≠ .ref n) : methM m o ds = oM (methD m o ds) := by
  funext μ
  cases o <;> first | rfl | exact absurd rfl (h _)
theorem chkM_ok (m : Mth) (o : D) (μ : Sto) : chkM m o μ = none ∨ chkM m o μ = some (.ok () μ) := by
  unfold chkM
  split <;> first | exact .inr rfl | exact .inl rfl | (split <;> first | exact .inr rfl | exact .inl rfl)
theorem At.chk {K : PySem.W.Frag} {σ : St} {G : Gh} {μ : Sto} {H : Hp} {α β : Type} {R : Gh → Hp → Hp → α → β → Prop} {m : Mth} {o : D} {k : Unit → M α} {Q : β → Hp → Prop} (h : At K Ca W R σ G μ H (M.bind (chkM m o) k) Q) : chkM m o μ = some (.ok () μ) ∧ At K Ca W R σ G μ H (k ()) Q := by
  unfold At M.bind at h
  rcases chkM_ok m o μ with e | e
  · rw [e] at h; exact h.elim
  · rw [e] at h; exact ⟨e, h⟩
theorem chk_str {m : Mth} {o : D} {μ : Sto} (hm : m = .join ∨ m = .split ∨ m = .sindex) (h : chkM m o μ = some (.ok () μ)) : ∃ z, o = .str z := by
  rcases hm with rfl | rfl | rfl <;> (cases o <;> first | exact ⟨_, rfl⟩ | (simp [chkM] at h))
theorem str_meth {m : Mth} {H : Hp} {σ : St} {Q : VK} {r : V → List V → Hp → VK → Prop} (hm : m = .join ∨ m = .split ∨ m = .sindex)
    (hr : ∀ z y σ H Q, (∃ Z G μ ρ hv, Rl X.K Ca Z G μ ρ hv σ H ∧ ∃ d, Hd X.K G H ρ σ d y ∧ At X.K Ca W (RvR X.K ρ σ) σ G μ H (oM (methD m (.str z) [d])) Q) → r (.str z) [y] H Q)
    (h : tE X.K Ca W C g (.meth m A [B]) σ H Q) : tM1 r (tE X.K Ca W C g A) (tE X.K Ca W C g B) σ H Q := by
  obtain ⟨Z, G, μ, ρ, hv, rl, h⟩ := h
  rw [meth_eq] at h
  refine tE_then RvR.mono rl h fun x v G1 μ1 H1 _ rl1 _ _ h => ?_
  obtain ⟨e1, h⟩ := h.chk
  obtain ⟨z, ez⟩ := chk_str hm e1
  have hx := rl1.hv _ List.mem_cons_self
  rw [ez] at hx h
  have hv : v = .str z := hx.str
  refine ⟨⟨z, hv⟩, ?_⟩
  rw [hv]
  refine tE_then RvR.mono rl1 h fun y u G2 μ2 H2 _ rl2 _ _ h => ?_
  rw [methM_of (fun n e => by cases e)] at h
  exact hr z u σ H2 Q ⟨Z, G2, μ2, ρ, _, rl2, y.d, rl2.hv _ List.mem_cons_self, h⟩
theorem pe_joinn {apos : Pos} (ha : PE X a (tE X.K Ca W C g A)) (hb : PE X b (tE X.K Ca W C g B)) (hs : starEach [b] X.env = [(false, eval b X.env)]) (hbase : attributeBase a "join" X.env (eval a X.env) = eval a X.env) (hline : (apos.endLine == pos.line) = true) :
    PE X (.Call (.Attribute a "join" apos) [b] [] pos) (tE X.K Ca W C g (.meth .join A [B])) :=
  (pe_join ha hb hs hbase hline).weak fun σ H Q h => str_meth (.inl rfl) (fun z y σ H Q ⟨Z, G, μ, ρ, hv, rl, d, hd, h0⟩ => by
    obtain ⟨rv, e, h⟩ := h0.oM
    clear h0
    simp only [methD, Option.bind_eq_some_iff] at e
    obtain ⟨ds, e1, ys, e2, e⟩ := e
    split at e
    · rename_i hz
      cases e
      cases d with
      | lst ds' =>
        cases e1
        obtain ⟨p, vs, rfl, h1, r1⟩ := hd.lst rl.sl
        rw [r1.ofStrs e2] at h1
        exact ⟨z, p, ys, rfl, rfl, .inl (.inl (.inl h1)), hz, same_of rl.ok h rStr⟩
      | tup ds' =>
        cases e1
        obtain ⟨p, vs, rfl, h1, r1⟩ := hd.tup
        rw [r1.ofStrs e2] at h1
        exact ⟨z, p, ys, rfl, rfl, .inr h1, hz, same_of rl.ok h rStr⟩
      | _ => cases e1
    · cases e) h
theorem pe_splitt {apos : Pos} (ha : PE X a (tE X.K Ca W C g A)) (hb : PE X b (tE X.K Ca W C g B)) (hs : starEach [b] X.env = [(false, eval b X.env)]) (hbase : attributeBase a "split" X.env (eval a X.env) = eval a X.env) (hline : (apos.endLine == pos.line) = true) :
    PE X (.Call (.Attribute a "split" apos) [b] [] pos) (tE X.K Ca W C g (.meth .split A [B])) :=
  (pe_split ha hb hs hbase hline).weak fun σ H Q h => str_meth (.inr (.inl rfl)) (fun z y σ H Q ⟨Z, G, μ, ρ, hv, rl, d, hd, h0⟩ => by
    obtain ⟨rv, e, h⟩ := h0.oM
    clear h0
    cases d with
    | str b =>
      simp only [methD] at e
      split at e
      · rename_i hz
        cases e
        refine ⟨z, b, rfl, by rw [hd.str], ?_, hz.2, ?_⟩
        · simpa using hz.1
        · exact newL rl.ok h (Reps.strs _)
      · cases e
    | _ => cases e) h
theorem pe_sindexx {apos : Pos} (ha : PE X a (tE X.K Ca W C g A)) (hb : PE X b (tE X.K Ca W C g B)) (hs : starEach [b] X.env = [(false, eval b X.env)]) (hbase : attributeBase a "index" X.env (eval a X.env) = eval a X.env) (hline : (apos.endLine == pos.line) = true) :
    PE X (.Call (.Attribute a "index" apos) [b] [] pos) (tE X.K Ca W C g (.meth .sindex A [B])) :=
  (pe_m1 F.slot_str_index F.type_str_index mt_sindex ha hb hs hbase hline).weak fun σ H Q h => str_meth (.inr (.inr rfl)) (fun z y σ H Q ⟨Z, G, μ, ρ, hv, rl, d, hd, h0⟩ => by
    obtain ⟨rv, e, h⟩ := h0.oM
    clear h0
    cases d with
    | str b =>
      simp only [methD] at e
      split at e
      · rename_i i r ho
        cases e
        exact ⟨z, b, i, r, rfl, by rw [hd.str], ho, same_of rl.ok h rInt⟩
      · cases e
    | _ => cases e) h
/-! ### a cell is written -/
theorem putCell {K : PySem.W.Frag} {G : Gh} {μ : Sto} {H : Hp} {n : Nat} {p : Addr} {c c' : Cell} {o : HO} (ok : Okk K Ca G μ H) (hp : G.φ[n]? = some p) (hc : μ[n]? = some c) (hd : c ≠ .dead) (h : Stay K G H G (upd H p o) → CellR K Ca G (upd H p o) c' p) :
    Ext G μ H G (μ.set n c') (upd H p o) ∧ Okk K Ca G (μ.set n c') (upd H p o) := by
  have lv : Lv G μ p := ⟨n, c, hp, hc, hd⟩
  obtain ⟨u, hu, mu⟩ := ok.mut lv
  have st : Stay K G H G (upd H p o) := ⟨fun _ _ h => h, fun _ h => h, fun b v e t => by
      have : b ≠ p := fun z => by
        rw [z, hu] at e; cases e
        obtain ⟨xs, t⟩ := t
        rcases mu with ⟨_, rfl⟩ | ⟨_, rfl⟩ | ⟨_, _, _, rfl⟩ <;> (rcases t with t | ⟨_, t⟩ <;> cases t)
      rw [upd_ne this]; exact e, fun b v e f => by
      have : b ≠ p := fun z => ok.nfz p lv (z ▸ f)
      rw [upd_ne this]; exact e⟩
  have hn : n < μ.length := (List.getElem?_eq_some_iff.mp hc).1
  have lv2 : ∀ b, Lv G (μ.set n c') b → Lv G μ b := fun b ⟨m, c2, q1, q2, q3⟩ => by
    by_cases e : m = n
    · rw [e, hp] at q1; cases q1; exact lv
    · rw [List.getElem?_set_ne (Ne.symm e)] at q2; exact ⟨m, c2, q1, q2, q3⟩
  refine ⟨⟨fun _ _ h => h, fun _ _ h => .inl h, fun _ h => h, fun _ h => .inl h, fun b v e nl => ?_, fun b e => ?_, fun b l => .inl (lv2 b l)⟩, ⟨by rw [List.length_set]; exact ok.len, ok.nd, fun m b e z => ?_, fun b l => ok.nfz b (lv2 b l), fun b f z => ?_, fun m c2 b q1 q2 => ?_⟩⟩
  · rw [upd_ne (fun z => nl (by rw [z]; exact lv))]; exact e
  · by_cases z : b = p
    · rw [z, upd_same] at e; cases e
    · rw [upd_ne z] at e; exact e
  · by_cases z2 : b = p
    · rw [z2, upd_same] at z; cases z
    · rw [upd_ne z2] at z; exact ok.ex m b e z
  · by_cases z2 : b = p
    · rw [z2, upd_same] at z; cases z
    · rw [upd_ne z2] at z; exact ok.fex b f z
  · by_cases e : m = n
    · rw [e] at q1 q2
      rw [hp] at q2; cases q2
      rw [List.getElem?_set_self hn] at q1; cases q1
      exact h st
    · rw [List.getElem?_set_ne (Ne.symm e)] at q1
      refine (ok.cell m c2 b q1 q2).step st fun v e2 => ?_
      rw [upd_ne (fun z => e (ok.nd m n b q2 (by rw [z]; exact hp)))]; exact e2
theorem chk_pop {m : Mth} {o : D} {μ : Sto} (hm : m = .pop ∨ m = .popAt) (h : chkM m o μ = some (.ok () μ)) : ∃ n xs, o = .ref n ∧ μ[n]? = some (.lst xs) := by
  rcases hm with rfl | rfl <;> (cases o <;> first | (simp [chkM] at h; done) | skip)
  · rename_i n
    refine ⟨n, ?_⟩
    simp only [chkM] at h
    split at h
    · exact ⟨_, rfl, by assumption⟩
    · cases h
  · rename_i n
    refine ⟨n, ?_⟩
    simp only [chkM] at h
    split at h
    · exact ⟨_, rfl, by assumption⟩
    · cases h
theorem getLast_ix {α : Type} {xs : List α} {x : α} (h : xs.getLast? = some x) : xs[xs.length - 1]? = some x := by
  rw [← List.getLast?_eq_getElem?]; exact h
theorem Reps.eraseIdx {K : PySem.W.Frag} {G : Gh} {H : Hp} : ∀ {ds : List D} {vs : List V} (i : Nat), Reps K G H ds vs → Reps K G H (ds.eraseIdx i) (vs.eraseIdx i)
  | [], _, i, h => by simp only [Reps] at h; subst h; simp [Reps]
  | _ :: _, _, 0, h => by
    simp only [Reps] at h
    obtain ⟨v, r, rfl, h1, h2⟩ := h
    exact h2
  | _ :: ds, _, i + 1, h => by
    simp only [Reps] at h
    obtain ⟨v, r, rfl, h1, h2⟩ := h
    exact Reps.cons h1 (Reps.eraseIdx i h2)
theorem pe_popp {apos : Pos} (ha : PE X a (tE X.K Ca W C g A)) (hbase : attributeBase a "pop" X.env (eval a X.env) = eval a X.env) (hline : (apos.endLine == pos.line) = true) :
    PE X (.Call (.Attribute a "pop" apos) [] [] pos) (tE X.K Ca W C g (.meth .pop A [])) :=
  (pe_bm0 F.plainAttrs_list F.slot_list_pop F.type_list_pop mt_pop ha hbase hline).weak fun σ H Q ⟨Z, G, μ, ρ, hv, rl, h⟩ => by
    rw [meth_eq0] at h
    refine tE_then RvR.mono rl h fun x v G1 μ1 H1 _ rl1 _ _ h => ?_
    obtain ⟨e1, h⟩ := h.chk
    obtain ⟨n, xs, ez, en⟩ := chk_pop (.inl rfl) e1
    have hx := rl1.hv _ List.mem_cons_self
    rw [ez] at hx h
    obtain ⟨p, rfl, hn, vs, h1, r1⟩ := rl1.cellAt hx en
    refine ⟨.inl ⟨rfl, vs, .inl (.inl h1)⟩, ?_⟩
    unfold At methM at h
    simp only [en] at h
    cases el : xs.getLast? with
    | none => simp only [el] at h
    | some d =>
      simp only [el] at h
      obtain ⟨y, hy, ry⟩ := r1.get (getLast_ix el)
      obtain ⟨e2, ok2⟩ := putCell (Ca := Ca) (c' := .lst xs.dropLast) (o := .lst vs.dropLast) rl1.ok hn en (by intro z; cases z) fun st => ⟨vs.dropLast, upd_same, st.reps _ _ r1.dropLast⟩
      exact ⟨p, vs, y, rfl, rfl, h1, by rw [← r1.length]; exact hy, h G1 y _ e2 ok2 ((e2.stay rl1.ok).rep _ _ ry)⟩
theorem pe_popAtt {apos : Pos} (ha : PE X a (tE X.K Ca W C g A)) (hb : PA X [b] (tBs X.K Ca W C g [B])) (hbase : attributeBase a "pop" X.env (eval a X.env) = eval a X.env)
    (hfew : ((backTo pos (starEach (b :: []) X.env)).all (fun x => !x.1) && (backToKw pos (keywordEach [] X.env)).all (fun x => x.1.isSome) && decide ((b :: []).length + ([] : List Keyword).length + (if ([] : List Keyword).isEmpty then 0 else 1) < 30)) = true)
    (hline : (apos.endLine == pos.line) = true) (hs : starEach [b] X.env = (false, eval b X.env) :: starEach [] X.env) (hpl : (backTo pos (starEach [] X.env)).any (·.1) = false) :
    PE X (.Call (.Attribute a "pop" apos) [b] [] pos) (tE X.K Ca W C g (.meth .popAt A [B])) :=
  (pe_bm F.plainAttrs_list F.slot_list_pop F.type_list_pop mt_popAt ha hb hbase hfew hline hs hpl).weak fun σ H Q ⟨Z, G, μ, ρ, hv, rl, h⟩ => by
    simp only [evalE] at h
    refine tE_then RvR.mono rl h fun x v G1 μ1 H1 _ rl1 _ _ h => ?_
    obtain ⟨e1, h⟩ := h.chk
    obtain ⟨n, xs, ez, en⟩ := chk_pop (.inr rfl) e1
    have hx := rl1.hv _ List.mem_cons_self
    rw [ez] at hx h
    obtain ⟨p, rfl, hn, vs, h1, r1⟩ := rl1.cellAt hx en
    refine ⟨.inl ⟨rfl, vs, .inl (.inl h1)⟩, ?_⟩
    refine tBs_then RvR.mono rl1 h fun ds us G2 μ2 H2 ex2 rl2 rs h => ?_
    have hx2 := rl2.hv _ List.mem_cons_self
    rw [ez] at hx2
    unfold At methM at h
    cases en2 : μ2[n]? with
    | none => simp only [en2] at h
    | some c =>
      cases c with
      | lst xs2 =>
        obtain ⟨p', e3, hn2, vs2, h2, r2⟩ := rl2.cellAt hx2 en2
        cases e3
        cases ds with
        | nil => simp only [en2] at h
        | cons d r =>
          cases r with
          | cons d2 r2 => cases d <;> simp only [en2] at h
          | nil =>
            cases d with
            | int i =>
              simp only [en2] at h
              obtain ⟨y, rfl, hy⟩ := rs.one
              rw [hy.int]
              by_cases hc : 0 ≤ i ∧ i < 2 ^ 62
              · rw [if_pos hc] at h
                cases ei : xs2[i.toNat]? with
                | none => simp only [ei] at h
                | some d =>
                  simp only [ei] at h
                  obtain ⟨y, hy, ry⟩ := r2.get ei
                  obtain ⟨e2, ok2⟩ := putCell (Ca := Ca) (c' := .lst (xs2.eraseIdx i.toNat)) (o := .lst (vs2.eraseIdx i.toNat)) rl2.ok hn2 en2 (by intro z; cases z) fun st => ⟨_, upd_same, st.reps _ _ (r2.eraseIdx _)⟩
                  have hlt : i.toNat < vs2.length := (List.getElem?_eq_some_iff.mp hy).1
                  refine ⟨p, vs2, i, i.toNat, y, rfl, rfl, h2, by omega, by omega, ?_, hy, h G2 y _ e2 ok2 ((e2.stay rl2.ok).rep _ _ ry)⟩
                  unfold seqIndex?
                  simp only [show ¬ i < 0 by omega, if_false]
                  rw [if_pos (by simp; omega)]
              · rw [if_neg hc] at h; exact h.elim
            | _ => simp only [en2] at h
      | _ => simp only [en2] at h
theorem pe_gett {k : Nat} {apos : Pos} (hr : Room k X.A) (ha : PE X a (tE X.K Ca W C g A)) (hb : PE X b (tE X.K Ca W C g B)) (hc : PE X c (tE X.K Ca W C g A2)) (m : M2 X a "get" apos b c pos) :
    PE X (.Call (.Attribute a "get" apos) [b, c] [] pos) (tE X.K Ca W C g (.meth .get A [B, A2])) :=
  (pe_dget2 (by have := hr.un; omega) ha hb hc m).weak fun σ H Q ⟨Z, G, μ, ρ, hv, rl, h⟩ => by
    rw [meth_eq2] at h
    refine tE_then RvR.mono rl h fun x v G1 μ1 H1 _ rl1 _ _ h => ?_
    obtain ⟨e1, h⟩ := h.chk
    have hx := rl1.hv _ List.mem_cons_self
    obtain ⟨n, kvs, ez, en⟩ : ∃ n kvs, x.d = .ref n ∧ μ1[n]? = some (.dct kvs) := by
      cases e : x.d <;> rw [e] at e1 <;> first | (simp [chkM] at e1; done) | skip
      rename_i n
      refine ⟨n, ?_⟩
      simp only [chkM] at e1
      split at e1
      · exact ⟨_, rfl, by assumption⟩
      · cases e1
    rw [ez] at hx
    obtain ⟨p, rfl, hn, vs, h1, r1⟩ := rl1.cellAt hx en
    refine ⟨p, rfl, .inl ⟨vs, .inl h1⟩, ?_⟩
    refine tE_then RvR.mono rl1 h fun y u G2 μ2 H2 _ rl2 _ _ h => ?_
    refine tE_then RvR.mono rl2 h fun z w G3 μ3 H3 _ rl3 wv _ h => ?_
    have hx3 := rl3.hv _ (List.mem_cons_of_mem _ (List.mem_cons_of_mem _ List.mem_cons_self))
    have hy3 := rl3.hv _ (List.mem_cons_of_mem _ List.mem_cons_self)
    have hz3 := rl3.hv _ List.mem_cons_self
    rw [ez] at hx3 h
    unfold At methM at h
    cases en3 : μ3[n]? with
    | none => simp only [en3] at h
    | some c =>
      cases c with
      | dct kvs3 =>
        obtain ⟨p', e3, hn3, vs3, h3, r3⟩ := rl3.cellAt hx3 en3
        cases e3
        simp only [en3] at h
        cases ek : keyD y.d with
        | none => simp only [ek, Option.bind_none] at h
        | some k =>
          simp only [ek, Option.bind_some] at h
          have ey := hy3.key ek
          obtain ⟨hl, h⟩ : notL z.d = true ∧ _ := by
            cases q : notL z.d with
            | false => rw [q] at h; exact h.elim
            | true => rw [q] at h; exact ⟨rfl, h⟩
          have rz : Rep X.K G3 H3 z.d w := by
            rcases hz3 with q | ⟨_, _, _, _, q⟩
            · exact q
            · have q : z.d = _ := q
              rw [q] at hl; cases hl
          refine ⟨valV vs3 k, .inl ⟨vs3, k, .inl h3, ey, rfl⟩, h G3 _ H3 (Ext.refl _ _ _) rl3.ok ?_⟩
          obtain ⟨f1, f2⟩ := KvR.find k r3
          cases ef : findK kvs3 k with
          | none => rw [f2 ef]; exact rz
          | some d => obtain ⟨v, e4, r4⟩ := f1 d ef; rw [e4]; exact r4
      | _ => simp only [en3] at h
end
end J
/-! what a loop walks; targets. -/
namespace L2
open PySem PySem.Spec PyProof.Rows
theorem PI.weak {X : Cx} {tg e : Expr} {t t' : TI} (h : PI X tg e t) (w : ∀ σ H Q, t' σ H Q → t σ H Q) : PI X tg e t' := ⟨fun pins s σ H Q I q => h.run pins s σ H Q I (w σ H Q q)⟩
theorem PG.weak {X : Cx} {e : Expr} {t t' : TG} (h : PG X e t) (w : ∀ v σ H Q, t' v σ H Q → t v σ H Q) : PG X e t' := ⟨fun pins s σ H v u Q I r q => h.run pins s σ H v u Q I r (w v σ H Q q)⟩
theorem PGs.weak {X : Cx} {e : List Expr} {t t' : TGs} (h : PGs X e t) (w : ∀ v σ H Q, t' v σ H Q → t v σ H Q) : PGs X e t' := ⟨fun pins s σ H v u Q I r q => h.run pins s σ H v u Q I r (w v σ H Q q)⟩
/-- a list, a tuple, a text -/
def iVal (K : PySem.W.Frag) (te : TE) : TI := fun σ H R => te σ H fun x H1 => (∃ a xs, x = .ref a ∧ SqL K H1 a xs ∧ R (Itl K a) H1) ∨ (∃ a xs, x = .ref a ∧ SqT K H1 a xs ∧ R (Itt K a) H1) ∨ ∃ z, x = .str z ∧ R (Its z) H1
theorem pi_val {X : Cx} {tg e : Expr} {te : TE} (he : PE X e te) : PI X tg e (iVal X.K te) := by
  refine ⟨fun pins s σ H R I h => ?_⟩
  refine thn (he.run pins s σ H _ I h) fun v s1 ⟨x, H1, I1, r1, q1⟩ => ?_
  have one : ∀ b, b ∈ [s1.heap.objs.size] → FpOk X pins H1 b := fun b hb => by
    rw [List.mem_singleton.mp hb]; exact I1.fpOk (Nat.le_refl _) (I1.hok.fresh (Nat.le_refl _))
  rcases q1 with ⟨a, xs, rfl, hq, q⟩ | ⟨a, xs, rfl, hq, q⟩ | ⟨z, rfl, q⟩
  · cases r1
    obtain ⟨its, rv, p, hz⟩ := I1.list hq
    exact wpAny_pyIter_list p.isList ⟨s1.heap.objs.size, [s1.heap.objs.size], _, _, H1, rfl, I1.kept (t' := s1.toks) fun b o e => Heap.get?_push_of_some _ e, turn_list a _, ⟨_, Heap.get?_push_size _ rfl, rfl, rfl⟩, one, q⟩
  · cases r1
    obtain ⟨its, rv, p, hz⟩ := I1.tuple hq
    exact wpAny_pyIter_tuple (show s1.heap.IsTuple a its.toArray from p) ⟨s1.heap.objs.size, [s1.heap.objs.size], _, _, H1, rfl, I1.kept (t' := s1.toks) fun b o e => Heap.get?_push_of_some _ e, turn_tuple a _, ⟨_, Heap.get?_push_size _ rfl, rfl, rfl⟩, one, q⟩
  · obtain ⟨t, rfl⟩ := r1
    cases ha : z.cps.all (· < 128)
    · exact wpAny_pyIter_wide ha (pi_one (tk := s1.toks) I1 _ (turn_str _ z t "str_iterator" (.inr rfl)) ⟨_, Heap.get?_push_size _ rfl, rfl, rfl⟩ q)
    · exact wpAny_pyIter_ascii ha (pi_one (tk := s1.toks) I1 _ (turn_str _ z t "str_ascii_iterator" (.inl rfl)) ⟨_, Heap.get?_push_size _ rfl, rfl, rfl⟩ q)
end L2
namespace J
open PySem L2 PySem.Spec PyProof.Rows
/-- the iterator walks these data -/
def Wk (K : PySem.W.Frag) (Ca : Str → Addr) (G0 : Gh) (H0 : Hp) (J : It) (ds : List D) : Prop := ∀ i G μ H, Stay K G0 H0 G H → Okk K Ca G μ H →
  (ds.length = i → J.stop i H) ∧ ∀ d, ds[i]? = some d → J.go i H ∧ ∀ x H', J.yld i H x H' → ∃ G', Ext G μ H G' μ H' ∧ Okk K Ca G' μ H' ∧ Rep K G' H' d x
def RW (K : PySem.W.Frag) (Ca : Str → Addr) : Gh → Hp → Hp → List D → It → Prop := fun G' _ H' ds J => Wk K Ca G' H' J ds
theorem RW.mono {K : PySem.W.Frag} {Ca : Str → Addr} : Mono (RW K Ca) := fun _ _ _ _ _ _ _ r => r
def evalW (C : Calls) (g : GT) (it : E) (ρ : Env) : M (List D) := M.bind (evalE C g it ρ) fun x => match x with
  | .bo _ _ => stuck
  | _ => oM (walkD x.d)
def tI (K : PySem.W.Frag) (Ca : Str → Addr) (W : WX) (C : Calls) (g : GT) (it : E) : TI := fun σ H R => ∃ Z G μ ρ hv, Rl K Ca Z G μ ρ hv σ H ∧ At K Ca W (RW K Ca) σ G μ H (evalW C g it ρ) R
section
variable {X : Cx} {Ca : Str → Addr} {W : WX} {C : Calls} {g : GT} {a b c tg : Expr} {A B A2 : E} {pos : Pos} {es : List Expr} {Es : List E}
/-- the list behind a reading may only be read -/
theorem wk_list {K : PySem.W.Frag} {G : Gh} {H : Hp} {p : Addr} {vs : List V} {ds : List D} (h : LsR G H p vs) (r : Reps K G H ds vs) : Wk K Ca G H (Itl K p) ds := fun i G1 μ1 H1 st ok1 => by
  have h1 := st.ls h
  have r1 := st.reps _ _ r
  refine ⟨fun hi0 => have hi := Nat.le_of_eq hi0; ⟨vs, h1.sq, by rw [← r.length]; exact hi⟩, fun d hd => ?_⟩
  obtain ⟨v, hv, rv⟩ := r1.get hd
  refine ⟨⟨vs, v, h1.sq, hv⟩, fun x H' y => ?_⟩
  obtain ⟨rfl, y⟩ := y
  have := y vs h1.sq
  rw [hv] at this; cases this
  exact ⟨G1, Ext.refl _ _ _, ok1, rv⟩
theorem wk_tup {K : PySem.W.Frag} {G : Gh} {H : Hp} {p : Addr} {vs : List V} {ds : List D} (h : SqT K H p vs) (r : Reps K G H ds vs) : Wk K Ca G H (Itt K p) ds := fun i G1 μ1 H1 st ok1 => by
  have h1 := st.sqT h
  have r1 := st.reps _ _ r
  refine ⟨fun hi0 => have hi := Nat.le_of_eq hi0; ⟨vs, h1, by rw [← r.length]; exact hi⟩, fun d hd => ?_⟩
  obtain ⟨v, hv, rv⟩ := r1.get hd
  refine ⟨⟨vs, v, h1, hv⟩, fun x H' y => ?_⟩
  obtain ⟨rfl, y⟩ := y
  have := y vs h1
  rw [hv] at this; cases this
  exact ⟨G1, Ext.refl _ _ _, ok1, rv⟩
theorem wk_str {K : PySem.W.Frag} {G : Gh} {H : Hp} {z : Str} : Wk K Ca G H (Its z) (z.cps.toList.map strD) := fun i G1 μ1 H1 e ok1 => by
  refine ⟨fun hi0 => have hi := Nat.le_of_eq hi0; by simpa [Its] using hi, fun d hd => ?_⟩
  rw [List.getElem?_map, Array.getElem?_toList] at hd
  cases q : z.cps[i]? with
  | none => rw [q] at hd; cases hd
  | some c =>
    rw [q] at hd; cases hd
    refine ⟨(Array.getElem?_eq_some_iff.mp q).1, fun x H' y => ?_⟩
    obtain ⟨rfl, c', q', rfl⟩ := y
    rw [q] at q'; cases q'
    exact ⟨G1, Ext.refl _ _ _, ok1, by simp only [strD, Rep]⟩
theorem wk_rng {K : PySem.W.Frag} {G : Gh} {H : Hp} {lo : Int} {n : Nat} : Wk K Ca G H (Itr lo n) ((List.range n).map fun (i : Nat) => D.int (lo + (i : Int))) := fun i G1 μ1 H1 e ok1 => by
  refine ⟨fun hi0 => have hi := Nat.le_of_eq hi0; by simpa [Itr] using hi, fun d hd => ?_⟩
  rw [List.getElem?_map] at hd
  by_cases hi : i < n
  · rw [List.getElem?_range hi] at hd; cases hd
    refine ⟨hi, fun x H' y => ?_⟩
    obtain ⟨rfl, rfl⟩ := y
    exact ⟨G1, Ext.refl _ _ _, ok1, by simp only [Rep]⟩
  · rw [List.getElem?_eq_none (by simpa using hi)] at hd; cases hd
theorem enumD_get : ∀ (ds : List D) (n i : Nat), (enumD n ds)[i]? = (ds[i]?).map fun d => .tup [.int ((n + i : Nat) : Int), d]
  | [], n, i => by simp [enumD]
  | d :: ds, n, 0 => by simp [enumD]
  | d :: ds, n, i + 1 => by simp only [enumD, List.getElem?_cons_succ]; rw [enumD_get ds (n + 1) i]; rw [show n + 1 + i = n + (i + 1) by omega]
theorem enumD_length : ∀ (ds : List D) (n : Nat), (enumD n ds).length = ds.length
  | [], _ => rfl
  | _ :: ds, n => by simp only [enumD, List.length_cons]; rw [enumD_length ds]
/-- a new pair -/
theorem newPair {K : PySem.W.Frag} {G : Gh} {μ : Sto} {H : Hp} {T : Addr} {x y : V} {d e : D} (ok : Okk K Ca G μ H) (hT : H T = none) (rx : Rep K G H d x) (ry : Rep K G H e y) :
    ∃ G', Ext G μ H G' μ (upd H T (.tup [x, y])) ∧ Okk K Ca G' μ (upd H T (.tup [x, y])) ∧ Rep K G' (upd H T (.tup [x, y])) (.tup [d, e]) (.ref T) := by
  have e1 := Ext.fresh (o := .tup [x, y]) ok hT
  have st := e1.stay ok
  refine ⟨G, e1, ok.fresh hT, ?_⟩
  simp only [Rep]
  exact ⟨T, _, rfl, .inl (.inl upd_same), Reps.cons (st.rep _ _ rx) (.one (st.rep _ _ ry))⟩
theorem wk_enum {K : PySem.W.Frag} {G : Gh} {H : Hp} {p : Addr} {vs : List V} {ds : List D} (h : LsR G H p vs) (r : Reps K G H ds vs) : Wk K Ca G H (Ite K p) (enumD 0 ds) := fun i G1 μ1 H1 st ok1 => by
  have h1 := st.ls h
  have r1 := st.reps _ _ r
  refine ⟨fun hi0 => have hi := Nat.le_of_eq hi0; ⟨vs, h1.sq, by rw [enumD_length] at hi; rw [← r.length]; exact hi⟩, fun d hd => ?_⟩
  rw [enumD_get] at hd
  obtain ⟨d0, hd0, rfl⟩ := Option.map_eq_some_iff.mp hd
  obtain ⟨v, hv, rv⟩ := r1.get hd0
  refine ⟨⟨vs, v, h1.sq, hv⟩, fun x H' y => ?_⟩
  obtain ⟨T, x0, rfl, hT, rfl, y⟩ := y
  have := y vs h1.sq
  rw [hv] at this; cases this
  rw [show ((0 + i : Nat) : Int) = (i : Int) by omega]
  exact newPair ok1 hT (by simp only [Rep]) rv
theorem wk_enumT {K : PySem.W.Frag} {G : Gh} {H : Hp} {p : Addr} {vs : List V} {ds : List D} (h : SqT K H p vs) (r : Reps K G H ds vs) : Wk K Ca G H (IteT K p) (enumD 0 ds) := fun i G1 μ1 H1 st ok1 => by
  have h1 := st.sqT h
  have r1 := st.reps _ _ r
  refine ⟨fun hi => ⟨vs, h1, by rw [enumD_length] at hi; rw [← r.length]; exact hi⟩, fun d hd => ?_⟩
  rw [enumD_get] at hd
  obtain ⟨d0, hd0, rfl⟩ := Option.map_eq_some_iff.mp hd
  obtain ⟨v, hv, rv⟩ := r1.get hd0
  refine ⟨⟨vs, v, h1, hv⟩, fun x H' y => ?_⟩
  obtain ⟨T, x0, rfl, hT, rfl, y⟩ := y
  have := y vs h1
  rw [hv] at this; cases this
  rw [show ((0 + i : Nat) : Int) = (i : Int) by omega]
  exact newPair ok1 hT (by simp only [Rep]) rv
theorem zipD_get : ∀ (ds es : List D) (i : Nat) (d : D), (zipD ds es)[i]? = some d → ∃ x y, ds[i]? = some x ∧ es[i]? = some y ∧ d = .tup [x, y]
  | [], _, i, d, h => by simp [zipD] at h
  | _ :: _, [], i, d, h => by simp [zipD] at h
  | a :: as, b :: bs, 0, d, h => by simp only [zipD, List.getElem?_cons_zero, Option.some.injEq] at h; exact ⟨a, b, rfl, rfl, h.symm⟩
  | a :: as, b :: bs, i + 1, d, h => by
    simp only [zipD, List.getElem?_cons_succ] at h
    obtain ⟨x, y, h1, h2, h3⟩ := zipD_get as bs i d h
    exact ⟨x, y, by simpa using h1, by simpa using h2, h3⟩
theorem zipD_length : ∀ (ds es : List D), (zipD ds es).length = min ds.length es.length
  | [], _ => by simp [zipD]
  | _ :: _, [] => by simp [zipD]
  | a :: as, b :: bs => by simp only [zipD, List.length_cons]; rw [zipD_length as bs]; omega
theorem wk_zip {K : PySem.W.Frag} {G : Gh} {H : Hp} {p q : Addr} {vs ws : List V} {ds es : List D} (h : LsR G H p vs) (k : LsR G H q ws) (r : Reps K G H ds vs) (t : Reps K G H es ws) : Wk K Ca G H (Itz K p q) (zipD ds es) := fun i G1 μ1 H1 st ok1 => by
  have h1 := st.ls h
  have k1 := st.ls k
  refine ⟨fun hi0 => have hi := Nat.le_of_eq hi0; ⟨vs, ws, h1.sq, k1.sq, by rw [zipD_length] at hi; rw [← r.length, ← t.length]; omega⟩, fun d hd => ?_⟩
  obtain ⟨d1, d2, e1, e2, rfl⟩ := zipD_get _ _ _ _ hd
  obtain ⟨v, hv, rv⟩ := (st.reps _ _ r).get e1
  obtain ⟨u, hu, ru⟩ := (st.reps _ _ t).get e2
  refine ⟨⟨vs, ws, v, u, h1.sq, k1.sq, hv, hu⟩, fun x H' y => ?_⟩
  obtain ⟨T, x0, y0, rfl, hT, rfl, y1, y2⟩ := y
  have := y1 vs h1.sq
  rw [hv] at this; cases this
  have := y2 ws k1.sq
  rw [hu] at this; cases this
  exact newPair ok1 hT rv ru
theorem wk_zipT {K : PySem.W.Frag} {G : Gh} {H : Hp} {p q : Addr} {vs ws : List V} {ds es : List D} (h : SqT K H p vs) (k : SqT K H q ws) (r : Reps K G H ds vs) (t : Reps K G H es ws) : Wk K Ca G H (RZ.ItzT K p q) (zipD ds es) := fun i G1 μ1 H1 st ok1 => by
  have h1 := st.sqT h
  have k1 := st.sqT k
  refine ⟨fun hi0 => have hi := Nat.le_of_eq hi0; ⟨vs, ws, h1, k1, by rw [zipD_length] at hi; rw [← r.length, ← t.length]; omega⟩, fun d hd => ?_⟩
  obtain ⟨d1, d2, e1, e2, rfl⟩ := zipD_get _ _ _ _ hd
  obtain ⟨v, hv, rv⟩ := (st.reps _ _ r).get e1
  obtain ⟨u, hu, ru⟩ := (st.reps _ _ t).get e2
  refine ⟨⟨vs, ws, v, u, h1, k1, hv, hu⟩, fun x H' y => ?_⟩
  obtain ⟨T, x0, y0, rfl, hT, rfl, y1, y2⟩ := y
  have := y1 vs h1
  rw [hv] at this; cases this
  have := y2 ws k1
  rw [hu] at this; cases this
  exact newPair ok1 hT rv ru
theorem rev_get {α : Type} {xs : List α} {i : Nat} {d : α} (h : xs.reverse[i]? = some d) : i < xs.length ∧ xs[xs.length - 1 - i]? = some d := by
  have hi : i < xs.length := by simpa using (List.getElem?_eq_some_iff.mp h).1
  rw [List.getElem?_reverse hi] at h
  exact ⟨hi, h⟩
theorem wk_rev {K : PySem.W.Frag} {G : Gh} {H : Hp} {p : Addr} {vs : List V} {ds : List D} (h : LsR G H p vs) (r : Reps K G H ds vs) : Wk K Ca G H (Itv K p vs.length) ds.reverse := fun i G1 μ1 H1 st ok1 => by
  have h1 := st.ls h
  refine ⟨fun hi0 => have hi := Nat.le_of_eq hi0; by rw [List.length_reverse, r.length] at hi; exact hi, fun d hd => ?_⟩
  obtain ⟨hi, hd⟩ := rev_get hd
  obtain ⟨v, hv, rv⟩ := (st.reps _ _ r).get hd
  rw [r.length] at hv hi
  refine ⟨⟨hi, vs, v, h1.sq, hv⟩, fun x H' y => ?_⟩
  obtain ⟨rfl, y⟩ := y
  have := y vs h1.sq
  rw [hv] at this; cases this
  exact ⟨G1, Ext.refl _ _ _, ok1, rv⟩
theorem wk_revT {K : PySem.W.Frag} {G : Gh} {H : Hp} {p : Addr} {vs : List V} {ds : List D} (h : SqT K H p vs) (r : Reps K G H ds vs) : Wk K Ca G H (RT.ItvT K p vs.length) ds.reverse := fun i G1 μ1 H1 st ok1 => by
  have h1 := st.sqT h
  refine ⟨fun hi0 => have hi := Nat.le_of_eq hi0; by rw [List.length_reverse, r.length] at hi; exact hi, fun d hd => ?_⟩
  obtain ⟨hi, hd⟩ := rev_get hd
  obtain ⟨v, hv, rv⟩ := (st.reps _ _ r).get hd
  rw [r.length] at hv hi
  refine ⟨⟨hi, vs, v, h1, hv⟩, fun x H' y => ?_⟩
  obtain ⟨rfl, y⟩ := y
  have := y vs h1
  rw [hv] at this; cases this
  exact ⟨G1, Ext.refl _ _ _, ok1, rv⟩
/-! ### what is walked, as text -/
def isI : E → Bool
  | .irng _ => true | .irng2 _ _ => true | .ienum _ => true | .izip _ _ => true | .izip3 _ _ _ => true | .irev _ => true | _ => false
theorem lsR_of {K : PySem.W.Frag} {G : Gh} {H : Hp} {ds : List D} {x : V} (h : Rep K G H (.lst ds) x) : ∃ p vs, x = .ref p ∧ LsR G H p vs ∧ Reps K G H ds vs := by simpa only [Rep] using h
theorem tpR_of {K : PySem.W.Frag} {G : Gh} {H : Hp} {ds : List D} {x : V} (h : Rep K G H (.tup ds) x) : ∃ p vs, x = .ref p ∧ SqT K H p vs ∧ Reps K G H ds vs := by simpa only [Rep] using h
theorem walk_end {K : PySem.W.Frag} {σ : St} {G : Gh} {μ : Sto} {H : Hp} {ds : List D} {R : It → Hp → Prop} {J : It} (ok : Okk K Ca G μ H) (h : At K Ca W (RW K Ca) σ G μ H (M.pure ds) R) (w : Wk K Ca G H J ds) : R J H :=
  h G J H (Ext.refl _ _ _) ok w
theorem pi_plain (ha : PE X a (tE X.K Ca W C g A)) : PI X tg a (tI X.K Ca W C g A) :=
  (pi_val ha).weak fun σ H Q ⟨Z, G, μ, ρ, hv, rl, h⟩ => by
    unfold evalW at h
    refine tE_then RW.mono rl h fun x v G1 μ1 H1 _ rl1 vv _ h => ?_
    have key : ∀ d, x.val = some d → At X.K Ca W (RW X.K Ca) σ G1 μ1 H1 (oM (walkD d)) Q → ((∃ a xs, v = .ref a ∧ SqL X.K H1 a xs ∧ Q (Itl X.K a) H1) ∨ (∃ a xs, v = .ref a ∧ SqT X.K H1 a xs ∧ Q (Itt X.K a) H1) ∨ ∃ z, v = .str z ∧ Q (Its z) H1) := fun d ed h0 => by
      have rd := vv d ed
      obtain ⟨ds, e, h⟩ := h0.oM
      clear h0
      cases d with
      | lst ds' =>
        cases e
        obtain ⟨p, vs, rfl, h1, r1⟩ := lsR_of rd
        exact Or.inl ⟨p, vs, rfl, h1.sq, walk_end rl1.ok h (wk_list h1 r1)⟩
      | tup ds' =>
        cases e
        obtain ⟨p, vs, rfl, h1, r1⟩ := tpR_of rd
        exact Or.inr (.inl ⟨p, vs, rfl, h1, walk_end rl1.ok h (wk_tup h1 r1)⟩)
      | str z =>
        cases e
        have : v = .str z := by simpa only [Rep] using rd
        exact Or.inr (.inr ⟨z, this, walk_end rl1.ok h (wk_str)⟩)
      | _ => cases e
    cases x with
    | v d => exact key d rfl h
    | fr ds => exact key (.lst ds) rfl h
    | bo i ds => exact False.elim h
theorem At.iteb {K : PySem.W.Frag} {σ : St} {G : Gh} {μ : Sto} {H : Hp} {α β γ : Type} {R : Gh → Hp → Hp → γ → β → Prop} {c : Prop} [Decidable c] {m : M α} {k : α → M γ} {Q : β → Hp → Prop} (h : At K Ca W R σ G μ H (M.bind (if c then m else stuck) k) Q) : c ∧ At K Ca W R σ G μ H (M.bind m k) Q := by
  by_cases hc : c
  · rw [if_pos hc] at h; exact ⟨hc, h⟩
  · rw [if_neg hc] at h; exact False.elim h
theorem pi_rng {p : Pos} (hg : Gl X "range") (hm : X.mg "range" = none) (ha : PA X [a] (tBs X.K Ca W C g [A])) (hs : starEach [a] X.env = [(false, eval a X.env)]) : PI X tg (.Call (.Name "range" p) [a] [] pos) (tI X.K Ca W C g (.irng A)) :=
  (pi_range1 hg hm ha hs).weak fun σ H Q ⟨Z, G, μ, ρ, hv, rl, h⟩ => by
    unfold evalW at h
    simp only [evalE, M.bind_assoc] at h
    have h : At X.K Ca W (RW X.K Ca) σ G μ H (M.bind (evalBs C g [A] ρ) fun ds => match ds with
      | [d] => M.bind (oM (intO d)) fun n => M.bind (if -(2 ^ 62) ≤ n ∧ n < 2 ^ 62 then M.pure (RV.v (.lst ((List.range n.toNat).map fun (i : Nat) => .int (0 + (i : Int))))) else stuck) fun x => match x with
        | .bo _ _ => stuck
        | _ => oM (walkD x.d)
      | _ => stuck) Q := by
        simp only [evalBs, M.bind_assoc, M.pure_bind]
        exact h
    refine tBs_then RW.mono rl h fun ds us G1 μ1 H1 _ rl1 rs h => ?_
    cases ds with
    | nil => exact False.elim h
    | cons d r =>
      cases r with
      | cons d2 r => exact False.elim h
      | nil =>
        obtain ⟨y, rfl, hy⟩ := rs.one
        obtain ⟨n, en, h2⟩ := h.oMb
        clear h
        cases d <;> cases en
        rw [hy.int]
        obtain ⟨hc, h2⟩ := h2.iteb
        exact ⟨n, rfl, hc.1, hc.2, walk_end rl1.ok h2 (wk_rng)⟩
theorem pi_enm {p tpos : Pos} {elts : List Expr} {kk : Nat} (hg : Gl X "enumerate") (hm : X.mg "enumerate" = none) (ha : PA X [a] (tAs X.K Ca W C g [A])) (hs : starEach [a] X.env = [(false, eval a X.env)]) :
    PI X (.Tuple elts kk tpos) (.Call (.Name "enumerate" p) [a] [] pos) (tI X.K Ca W C g (.ienum A)) :=
  (pi_enumA hg hm ha hs).weak fun σ H Q ⟨Z, G, μ, ρ, hv, rl, h⟩ => by
    unfold evalW at h
    simp only [evalE, M.bind_assoc] at h
    have h : At X.K Ca W (RW X.K Ca) σ G μ H (M.bind (evalEs C g [A] ρ) fun ds => match ds with
      | [d] => M.bind (oM (itemsD d)) fun ds => M.bind (M.pure (RV.v (.lst (enumD 0 ds)))) fun x => match x with
        | .bo _ _ => stuck
        | _ => oM (walkD x.d)
      | _ => stuck) Q := by
        simp only [evalEs, M.bind_assoc, M.pure_bind]
        exact h
    refine tAs_then RW.mono rl h fun ds us G1 μ1 H1 _ rl1 rs h => ?_
    cases ds with
    | nil => exact False.elim h
    | cons d r =>
      cases r with
      | cons d2 r => exact False.elim h
      | nil =>
        simp only [Reps] at rs
        obtain ⟨y, _, rfl, hy, rfl⟩ := rs
        obtain ⟨n, en, h2⟩ := h.oMb
        clear h
        cases d <;> cases en
        · obtain ⟨p, vs, rfl, h1, r1⟩ := tpR_of hy
          exact ⟨p, vs, rfl, .inr ⟨h1, walk_end rl1.ok h2 (wk_enumT h1 r1)⟩⟩
        · obtain ⟨p, vs, rfl, h1, r1⟩ := lsR_of hy
          exact ⟨p, vs, rfl, .inl ⟨h1.sq, walk_end rl1.ok h2 (wk_enum h1 r1)⟩⟩
theorem pi_zipp {p tpos : Pos} {elts : List Expr} {kk : Nat} (hg : Gl X "zip") (hm : X.mg "zip" = none) (ha : PA X [a, b] (tAs X.K Ca W C g [A, B]))
    (hs : starEach [a, b] X.env = (false, eval a X.env) :: starEach [b] X.env) (hpl : (backTo pos (starEach [b] X.env)).any (·.1) = false) :
    PI X (.Tuple elts kk tpos) (.Call (.Name "zip" p) [a, b] [] pos) (tI X.K Ca W C g (.izip A B)) :=
  (RZ.pi_zipA hg hm ha hs hpl).weak fun σ H Q ⟨Z, G, μ, ρ, hv, rl, h⟩ => by
    unfold evalW at h
    simp only [evalE, M.bind_assoc] at h
    have h : At X.K Ca W (RW X.K Ca) σ G μ H (M.bind (evalEs C g [A, B] ρ) fun ds => match ds with
      | [d, d'] => M.bind (oM (twoD d d')) fun p => M.bind (M.pure (RV.v (.lst (zipD p.1 p.2)))) fun x => match x with
        | .bo _ _ => stuck
        | _ => oM (walkD x.d)
      | _ => stuck) Q := by
        simp only [evalEs, M.bind_assoc, M.pure_bind]
        exact h
    refine tAs_then RW.mono rl h fun ds us G1 μ1 H1 _ rl1 rs h => ?_
    cases ds with
    | nil => exact False.elim h
    | cons d r =>
      cases r with
      | nil => exact False.elim h
      | cons d2 r =>
        cases r with
        | cons d3 r => exact False.elim h
        | nil =>
          simp only [Reps] at rs
          obtain ⟨y, _, rfl, hy, z, _, rfl, hz, rfl⟩ := rs
          obtain ⟨n, en, h9⟩ := h.oMb
          clear h
          unfold twoD at en
          split at en
          · cases en
            obtain ⟨p, vs, rfl, h1, r1⟩ := lsR_of hy
            obtain ⟨q, ws, rfl, h2, r2⟩ := lsR_of hz
            exact ⟨p, q, vs, ws, rfl, .inl ⟨h1.sq, h2.sq, walk_end rl1.ok h9 (wk_zip h1 h2 r1 r2)⟩⟩
          · cases en
            obtain ⟨p, vs, rfl, h1, r1⟩ := tpR_of hy
            obtain ⟨q, ws, rfl, h2, r2⟩ := tpR_of hz
            exact ⟨p, q, vs, ws, rfl, .inr ⟨h1, h2, walk_end rl1.ok h9 (wk_zipT h1 h2 r1 r2)⟩⟩
          · cases en
theorem pi_revv {p : Pos} (hg : Gl X "reversed") (hm : X.mg "reversed" = none) (ha : PE X a (tE X.K Ca W C g A)) (hs : starEach [a] X.env = (false, eval a X.env) :: starEach [] X.env) :
    PI X tg (.Call (.Name "reversed" p) [a] [] pos) (tI X.K Ca W C g (.irev A)) :=
  (RT.pi_revA hg hm ha hs).weak fun σ H Q ⟨Z, G, μ, ρ, hv, rl, h⟩ => by
    unfold evalW at h
    simp only [evalE, M.bind_assoc] at h
    refine tE_then RW.mono rl h fun x v G1 μ1 H1 _ rl1 vv _ h => ?_
    obtain ⟨d, ed, h⟩ := val_of h
    have rd := vv d ed
    obtain ⟨ds, e, h9⟩ := h.oMb
    clear h
    cases d with
    | lst ds' =>
      cases e
      obtain ⟨p, vs, rfl, h1, r1⟩ := lsR_of rd
      exact ⟨p, vs, rfl, Or.inl ⟨h1.sq, walk_end rl1.ok h9 (wk_rev h1 r1)⟩⟩
    | tup ds' =>
      cases e
      obtain ⟨p, vs, rfl, h1, r1⟩ := tpR_of rd
      exact ⟨p, vs, rfl, Or.inr ⟨h1, walk_end rl1.ok h9 (wk_revT h1 r1)⟩⟩
    | _ => cases e
end
end J
/-! targets, comprehensions. -/
namespace L2
open PySem PySem.Spec PyProof.Rows
theorem PTs.weak {X : Cx} {e : List Expr} {t t' : TT} (h : PTs X e t) (w : ∀ σ H Q, t' σ H Q → t σ H Q) : PTs X e t' := ⟨fun pins s σ H Q I q => h.run pins s σ H Q I (w σ H Q q)⟩
end L2
namespace J
open PySem L2 PySem.Spec PyProof.Rows
mutual
def T.sl : T → List Nat
  | .nm i => [i]
  | .tp ts => slTs ts
def slTs : List T → List Nat
  | [] => []
  | t :: ts => t.sl ++ slTs ts
end
section
variable {K : PySem.W.Frag} {Ca : Str → Addr} {Z : Ent} {G G' : Gh} {μ μ' : Sto} {ρ : Env} {hv : List (D × V)} {σ : St} {H H' : Hp}
theorem Rl.setVal {i : Nat} {d : D} {x : V} (rl : Rl K Ca Z G μ ρ hv σ H) (r : Rep K G H d x) (hi : i < ρ.length) : Rl K Ca Z G μ (ρ.set i (.val d)) [] (σ.set i (some x)) H := by
  have hs : i < σ.length := by rw [← rl.sl.len]; exact hi
  have no : ∀ (j : Nat) (es : List D), (ρ.set i (.val d))[j]? = some (.own es) → j ≠ i ∧ ρ[j]? = some (.own es) ∧ (σ.set i (some x))[j]? = σ[j]? := fun j es h => by
    by_cases e : j = i
    · rw [e, List.getElem?_set_self hi] at h; cases h
    · rw [List.getElem?_set_ne (Ne.symm e)] at h ⊢; exact ⟨e, h, rfl⟩
  refine ⟨rl.ext, rl.ok, ⟨by rw [List.length_set, List.length_set]; exact rl.sl.len, fun j d' h => ?_, fun j es h => ?_, fun j k a es fs h1 h2 h3 h4 => ?_⟩, fun p hp => (by cases hp), rl.anc⟩
  · by_cases e : j = i
    · rw [e, List.getElem?_set_self hi] at h; cases h
      exact ⟨x, by rw [e, List.getElem?_set_self hs], r⟩
    · rw [List.getElem?_set_ne (Ne.symm e)] at h ⊢; exact rl.sl.val j d' h
  · obtain ⟨_, h1, h2⟩ := no j es h
    rw [h2]; exact rl.sl.own j es h1
  · obtain ⟨_, q1, q2⟩ := no j es h1
    obtain ⟨_, q3, q4⟩ := no k fs h2
    rw [q2] at h3; rw [q4] at h4
    exact rl.sl.dis j k a es fs q1 q3 h3 h4
theorem Rl.setNone {i : Nat} (rl : Rl K Ca Z G μ ρ [] σ H) : Rl K Ca Z G μ (ρ.set i .none) [] (σ.set i none) H := by
  have no : ∀ (j : Nat) (s : Slot), s ≠ .none → (ρ.set i .none)[j]? = some s → j ≠ i ∧ ρ[j]? = some s ∧ (σ.set i none)[j]? = σ[j]? := fun j s hs h => by
    by_cases e : j = i
    · rw [e] at h
      by_cases hi : i < ρ.length
      · rw [List.getElem?_set_self hi] at h; cases h; exact absurd rfl hs
      · rw [List.getElem?_eq_none (by rw [List.length_set]; omega)] at h; cases h
    · rw [List.getElem?_set_ne (Ne.symm e)] at h ⊢; exact ⟨e, h, rfl⟩
  refine ⟨rl.ext, rl.ok, ⟨by rw [List.length_set, List.length_set]; exact rl.sl.len, fun j d' h => ?_, fun j es h => ?_, fun j k a es fs h1 h2 h3 h4 => ?_⟩, fun p hp => (by cases hp), rl.anc⟩
  · obtain ⟨_, h1, h2⟩ := no j _ (by intro z; cases z) h
    rw [h2]; exact rl.sl.val j d' h1
  · obtain ⟨_, h1, h2⟩ := no j _ (by intro z; cases z) h
    rw [h2]; exact rl.sl.own j es h1
  · obtain ⟨_, q1, q2⟩ := no j _ (by intro z; cases z) h1
    obtain ⟨_, q3, q4⟩ := no k _ (by intro z; cases z) h2
    rw [q2] at h3; rw [q4] at h4
    exact rl.sl.dis j k a es fs q1 q3 h3 h4
theorem Rl.wipe (rl : Rl K Ca Z G μ ρ hv σ H) : ∀ vs : List Nat, Rl K Ca Z G μ (wipeS ρ vs) [] (L2.wipe σ vs) H
  | [] => rl.drop fun p hp => by cases hp
  | v :: vs => by
    unfold wipeS L2.wipe
    exact (Rl.wipe rl vs).setNone
end
def gT (K : PySem.W.Frag) (Ca : Str → Addr) (t : T) : TG := fun x σ H R => ∃ Z G μ ρ hv d ρ1, Rl K Ca Z G μ ρ hv σ H ∧ Rep K G H d x ∧ bindT t d ρ = some ρ1 ∧ ∀ σ1, Rl K Ca Z G μ ρ1 [] σ1 H → (∀ j, j ∉ t.sl → σ1[j]? = σ[j]?) → R σ1 H
def gTs (K : PySem.W.Frag) (Ca : Str → Addr) (ts : List T) : TGs := fun vs σ H R => ∃ Z G μ ρ hv ds ρ1, Rl K Ca Z G μ ρ hv σ H ∧ Reps K G H ds vs ∧ bindTs ts ds ρ = some ρ1 ∧ ∀ σ1, Rl K Ca Z G μ ρ1 [] σ1 H → (∀ j, j ∉ slTs ts → σ1[j]? = σ[j]?) → R σ1 H
section
variable {X : Cx} {Ca : Str → Addr} {W : WX} {C : Calls} {g : GT} {pos : Pos}
theorem pg_nm {i : Nat} {x : Str} (hN : X.N.Nodup) (hi : X.N[i]? = some x) (hx : Loc X.env.scope x) (hf : X.fn x = true ∨ X.env.scope.names.lookup x = some .local) : PG X (.Name x pos) (gT X.K Ca (.nm i)) :=
  (pg_name hN hi hx hf).weak fun v σ H R ⟨Z, G, μ, ρ, hv, d, ρ1, rl, r, e, f⟩ => by
    simp only [bindT] at e
    split at e
    · rename_i h
      cases e
      refine f _ (rl.setVal r h) fun j hj => ?_
      have : j ≠ i := fun z => hj (by rw [z]; simp [T.sl])
      rw [List.getElem?_set_ne (Ne.symm this)]
    · cases e
theorem pgs_nill : PGs X [] (gTs X.K Ca []) := pgs_nil.weak fun v σ H R ⟨Z, G, μ, ρ, hv, ds, ρ1, rl, r, e, f⟩ => by
  cases ds with
  | nil =>
    simp only [bindTs] at e
    cases e
    simp only [Reps] at r
    exact ⟨r, f σ (rl.drop fun p hp => by cases hp) fun _ _ => rfl⟩
  | cons d ds => simp [bindTs] at e
theorem pgs_conss {e : Expr} {es : List Expr} {t : T} {ts : List T} (h1 : PG X e (gT X.K Ca t)) (h2 : PGs X es (gTs X.K Ca ts)) (hs : (assignEach (e :: es) X.env).map (·.2) = assign e X.env :: (assignEach es X.env).map (·.2)) : PGs X (e :: es) (gTs X.K Ca (t :: ts)) :=
  (pgs_cons h1 h2 hs).weak fun v σ H R ⟨Z, G, μ, ρ, hv, ds, ρ1, rl, r, e, f⟩ => by
    cases ds with
    | nil => simp [bindTs] at e
    | cons d ds =>
      simp only [bindTs, Option.bind_eq_some_iff] at e
      obtain ⟨ρ2, e1, e2⟩ := e
      simp only [Reps] at r
      obtain ⟨x, xs, rfl, r1, r2⟩ := r
      refine ⟨x, xs, rfl, Z, G, μ, ρ, hv, d, ρ2, rl, r1, e1, fun σ2 rl2 a2 => ?_⟩
      refine ⟨Z, G, μ, ρ2, _, ds, ρ1, rl2, r2, e2, fun σ1 rl1 a1 => f σ1 rl1 fun j hj => ?_⟩
      have h1 : j ∉ t.sl := fun z => hj (by simp [slTs, z])
      have h2 : j ∉ slTs ts := fun z => hj (by simp [slTs, z])
      rw [a1 j h2, a2 j h1]
theorem bindTs_length : ∀ (ts : List T) (ds : List D) (ρ ρ1 : Env), bindTs ts ds ρ = some ρ1 → ts.length = ds.length
  | [], [], _, _, _ => rfl
  | [], _ :: _, _, _, h => by simp [bindTs] at h
  | _ :: _, [], _, _, h => by simp [bindTs] at h
  | t :: ts, d :: ds, ρ, ρ1, h => by
    simp only [bindTs, Option.bind_eq_some_iff] at h
    obtain ⟨ρ2, _, h⟩ := h
    simp [bindTs_length ts ds ρ2 ρ1 h]
mutual
theorem bindT_len : ∀ {t : T} {d : D} {ρ ρ1 : Env}, bindT t d ρ = some ρ1 → ρ1.length = ρ.length
  | .nm i, d, ρ, ρ1, h => by
    simp only [bindT] at h
    split at h
    · cases h; rw [List.length_set]
    · cases h
  | .tp ts, d, ρ, ρ1, h => by
    cases d with
    | tup ds => simp only [bindT] at h; exact bindTs_len h
    | _ => simp [bindT] at h
theorem bindTs_len : ∀ {ts : List T} {ds : List D} {ρ ρ1 : Env}, bindTs ts ds ρ = some ρ1 → ρ1.length = ρ.length
  | [], [], _, _, h => by simp only [bindTs] at h; cases h; rfl
  | [], _ :: _, _, _, h => by simp [bindTs] at h
  | _ :: _, [], _, _, h => by simp [bindTs] at h
  | t :: ts, d :: ds, ρ, ρ1, h => by
    simp only [bindTs, Option.bind_eq_some_iff] at h
    obtain ⟨ρ2, h1, h⟩ := h
    rw [bindTs_len h, bindT_len h1]
end
theorem pg_tp {es : List Expr} {k : Nat} {ts : List T} (hc : X.calm = true) (h : PGs X es (gTs X.K Ca ts)) (hn : (assignEach es X.env).length = ts.length) (hst : (assignEach es X.env).findIdx? (·.1) = none) : PG X (.Tuple es k pos) (gT X.K Ca (.tp ts)) :=
  (pg_tup hc h hn hst).weak fun v σ H R ⟨Z, G, μ, ρ, hv, d, ρ1, rl, r, e, f⟩ => by
    cases d with
    | tup ds =>
      simp only [bindT] at e
      obtain ⟨p, vs, rfl, h1, r1⟩ := tpR_of r
      exact ⟨p, vs, rfl, h1, by rw [← r1.length]; exact (bindTs_length _ _ _ _ e).symm, Z, G, μ, ρ, hv, ds, ρ1, rl, r1, e, fun σ1 q1 q2 => f σ1 q1 fun j hj => q2 j (by simpa [T.sl] using hj)⟩
    | _ => simp [bindT] at e

/-! ### comprehensions -/
structure Prv (G : Gh) (H : Hp) (p : Addr) (acc : List V) : Prop where
  at_ : H p = some (.lst acc)
  nf : ¬ G.Fz p
  np : ∀ n : Nat, G.φ[n]? ≠ some p
theorem Prv.step {G G' : Gh} {μ μ' : Sto} {H H' : Hp} {p : Addr} {acc : List V} (s : Prv G H p acc) (e : Ext G μ H G' μ' H') : Prv G' H' p acc := by
  have n : ¬ Lv G μ p := fun ⟨n, _, q, _⟩ => s.np n q
  refine ⟨e.keep p _ s.at_ n, fun f => ?_, fun m q => ?_⟩
  · rcases e.fzn p f with f | f | f
    · exact s.nf f
    · rw [s.at_] at f; cases f
    · exact n f
  · rcases e.new m p q with q | q
    · exact s.np m q
    · rw [s.at_] at q; cases q
theorem Prv.app {K : PySem.W.Frag} {Gb G : Gh} {μb μ : Sto} {Hb H : Hp} {p : Addr} {acc acc' : List V} (s : Prv G H p acc) (e : Ext Gb μb Hb G μ H) (ok : Okk K Ca G μ H) (hb : Hb p = none) :
    Ext Gb μb Hb G μ (upd H p (.lst acc')) ∧ Okk K Ca G μ (upd H p (.lst acc')) ∧ Prv G (upd H p (.lst acc')) p acc' ∧ Stay K G H G (upd H p (.lst acc')) := by
  have st : Stay K G H G (upd H p (.lst acc')) := ⟨fun _ _ h => h, fun _ h => h, fun b v q t => by
      have : b ≠ p := fun z => by
        rw [z, s.at_] at q; cases q
        obtain ⟨xs, t⟩ := t
        rcases t with t | ⟨_, t⟩ <;> cases t
      rw [upd_ne this]; exact q, fun b v q f => by
      have : b ≠ p := fun z => s.nf (z ▸ f)
      rw [upd_ne this]; exact q⟩
  have none_ : ∀ b, upd H p (.lst acc') b = none → H b = none := fun b q => by
    by_cases z : b = p
    · rw [z, upd_same] at q; cases q
    · rw [upd_ne z] at q; exact q
  refine ⟨⟨e.pre, e.new, e.fz, e.fzn, fun b v q nl => ?_, fun b q => e.old b (none_ b q), e.lv⟩, ⟨ok.len, ok.nd, fun n b q z => ok.ex n b q (none_ b z), ok.nfz, fun b f z => ok.fex b f (none_ b z), fun n c b q1 q2 => ?_⟩, ⟨upd_same, s.nf, s.np⟩, st⟩
  · rw [upd_ne (fun z => by rw [z, hb] at q; cases q)]; exact e.keep b v q nl
  · refine (ok.cell n c b q1 q2).step st fun v q => ?_
    rw [upd_ne (fun z => s.np n (by rw [← z]; exact q2))]; exact q
theorem Prv.new {K : PySem.W.Frag} {G : Gh} {μ : Sto} {H : Hp} {p : Addr} {acc : List V} (ok : Okk K Ca G μ H) (h : H p = none) : Prv G (upd H p (.lst acc)) p acc :=
  ⟨upd_same, fun f => ok.fex p f h, fun n q => ok.ex n p q h⟩
theorem wipe_in {σ : St} {i : Nat} : ∀ {vs : List Nat}, i ∈ vs → i < σ.length → (L2.wipe σ vs)[i]? = some none
  | v :: vs, h, hi => by
    unfold L2.wipe
    by_cases e : v = i
    · rw [e, List.getElem?_set_self (by rw [L2.wipe_length]; exact hi)]
    · rw [List.getElem?_set_ne e]
      exact wipe_in ((List.mem_cons.mp h).resolve_left (Ne.symm e)) hi
theorem wipe_agree {σ σ1 : St} {vs sl : List Nat} (hl : σ1.length = σ.length) (sub : ∀ i ∈ sl, i ∈ vs) (h : ∀ j, j ∉ sl → σ1[j]? = (L2.wipe σ vs)[j]?) : L2.wipe σ1 vs = L2.wipe σ vs := by
  apply List.ext_getElem?
  intro j
  by_cases hj : j ∈ vs
  · by_cases hl2 : j < σ.length
    · rw [wipe_in hj hl2, wipe_in hj (by omega)]
    · rw [List.getElem?_eq_none (by rw [L2.wipe_length]; omega), List.getElem?_eq_none (by rw [L2.wipe_length]; omega)]
  · rw [L2.wipe_out hj, h j (fun z => hj (sub j z))]
abbrev W0 : WX := fun _ _ _ _ => False
def tC' (K : PySem.W.Frag) (Ca : Str → Addr) (W : WX) (C : Calls) (g : GT) (c : Option E) : TT := fun σ H Q => ∃ Z G μ ρ hv, Rl K Ca Z G μ ρ hv σ H ∧ At K Ca W RB σ G μ H (evalC C g c ρ) Q
theorem pts_nonee : PTs X [] (tC' X.K Ca W C g none) := pts_nil.weak fun σ H Q ⟨Z, G, μ, ρ, hv, rl, h⟩ => by
  simp only [evalC] at h
  exact h G true H (Ext.refl _ _ _) rl.ok rfl
theorem pts_somee {e : Expr} {A : E} (h : PT X e (tT X.K Ca W C g A)) : PTs X [e] (tC' X.K Ca W C g (some A)) := (pts_one h).weak fun σ H Q ⟨Z, G, μ, ρ, hv, rl, h⟩ => ⟨Z, G, μ, ρ, hv, rl, by
  simp only [evalC] at h; exact h⟩
/-- one item -/
def compF (C : Calls) (g : GT) (own : List Nat) (t : T) (c : Option E) (e : E) (ρ : Env) (d : D) : M (Option D) := match bindT t d (wipeS ρ own) with
  | none => stuck
  | some ρ1 => M.bind (evalC C g c ρ1) fun k => if k then M.bind (evalE C g e ρ1) fun y => M.bind (needV y) fun d => M.pure (some d) else M.pure none
theorem comp_eq {own : List Nat} {t : T} {it : E} {c : Option E} {e : E} {ρ : Env} : evalE C g (.comp own t it c e) ρ = M.bind (evalW C g it ρ) fun ds => M.bind (noex (mapItems (compF C g own t c e ρ) ds)) fun r => if r.length ≤ sizeLine ∧ ds.length ≤ sizeLine then M.pure (.fr r) else stuck := by
  simp only [evalE]
  unfold evalW
  rw [M.bind_assoc]
  congr 1
  funext x
  cases x <;> rfl
theorem bind_ok {α β : Type} {m : M α} {k : α → M β} {μ μ2 : Sto} {b : β} (h : M.bind m k μ = some (.ok b μ2)) : ∃ a μ1, m μ = some (.ok a μ1) ∧ k a μ1 = some (.ok b μ2) := by
  unfold M.bind at h
  cases q : m μ with
  | none => rw [q] at h; cases h
  | some r =>
    rw [q] at h
    cases r with
    | exc x μ1 => cases h
    | ok a μ1 => exact ⟨a, μ1, rfl, h⟩
theorem at_ok {K : PySem.W.Frag} {σ : St} {G : Gh} {μ μ2 : Sto} {H : Hp} {α β : Type} {R : Gh → Hp → Hp → α → β → Prop} {m : M α} {a : α} {Q : β → Hp → Prop} (e : m μ = some (.ok a μ2)) (h : ∀ G1 v H1, Ext G μ H G1 μ2 H1 → Okk K Ca G1 μ2 H1 → R G1 H H1 a v → Q v H1) : At K Ca W R σ G μ H m Q := by
  unfold At
  rw [e]
  exact h
theorem At.noexb {K : PySem.W.Frag} {σ : St} {G : Gh} {μ : Sto} {H : Hp} {α β γ : Type} {R : Gh → Hp → Hp → γ → β → Prop} {m : M α} {k : α → M γ} {Q : β → Hp → Prop} (h : At K Ca W R σ G μ H (M.bind (noex m) k) Q) : ∃ a μ1, m μ = some (.ok a μ1) ∧ At K Ca W R σ G μ H (fun _ => k a μ1) Q := by
  unfold At M.bind noex at h
  cases q : m μ with
  | none => rw [q] at h; exact h.elim
  | some r =>
    rw [q] at h
    cases r with
    | exc x μ1 => exact h.elim
    | ok a μ1 => exact ⟨a, μ1, rfl, h⟩
theorem mapItems_cons {f : D → M (Option D)} {d : D} {ds : List D} {μ μ2 : Sto} {r : List D} (h : mapItems f (d :: ds) μ = some (.ok r μ2)) : ∃ o r' μ1, f d μ = some (.ok o μ1) ∧ mapItems f ds μ1 = some (.ok r' μ2) ∧ r = (match o with | none => r' | some x => x :: r') := by
  simp only [mapItems] at h
  obtain ⟨o, μ1, h1, h⟩ := bind_ok h
  obtain ⟨r', μ3, h2, h⟩ := bind_ok h
  cases h
  exact ⟨o, r', μ1, h1, h2, rfl⟩
theorem comp_lc {own : List (Str × Nat)} {t : T} {IT e : E} {co : Option E} (sub : ∀ i ∈ t.sl, i ∈ own.map (·.2)) {σ : St} {H : Hp} {Q : VK} (h : tE X.K Ca W C g (.comp (own.map (·.2)) t IT co e) σ H Q) :
    tLc (tI X.K Ca W C g IT) (gT X.K Ca t) (tC' X.K Ca W0 C g co) (tE X.K Ca W0 C g e) (own.map (·.2)) σ H Q := by
    obtain ⟨Z, G, μ, ρ, hv, rl, h⟩ := h
    rw [comp_eq] at h
    refine ⟨Z, G, μ, ρ, hv, rl, (At.bind (R := RW X.K Ca) RvR.mono h).imp fun G1' μ1' H1 ds' Jt ex1' ok1' rw1' f => ?_⟩
    obtain ⟨ds, G2, μ2, e2, ok2, rw2, h2⟩ := f Jt rw1'
    intro p hp
    obtain ⟨r, μr, em, h3⟩ := (h2 G2 e2 ok2).noexb
    clear h2 f h
    have wk : Wk X.K Ca G2 H1 Jt ds := rw2
    obtain ⟨⟨hr, hd⟩, fin⟩ : (r.length ≤ sizeLine ∧ ds.length ≤ sizeLine) ∧ ∀ G' v H', Ext G2 μ2 H1 G' μr H' → Okk X.K Ca G' μr H' → RvR X.K ρ σ G' H1 H' (.fr r) v → Q v H' := by
      by_cases hz : r.length ≤ sizeLine ∧ ds.length ≤ sizeLine
      · rw [if_pos hz] at h3; exact ⟨hz, h3⟩
      · rw [if_neg hz] at h3; exact h3.elim
    clear h3
    let Inv' : Nat → Hp → Prop := fun i Hc => i ≤ ds.length ∧ ∃ Gc μc acc racc rest, Ext G2 μ2 H1 Gc μc Hc ∧ Okk X.K Ca Gc μc Hc ∧ Prv Gc Hc p acc ∧ Reps X.K Gc Hc racc acc ∧ mapItems (compF C g (own.map (·.2)) t co e ρ) (ds.drop i) μc = some (.ok rest μr) ∧ r = racc ++ rest ∧ racc.length ≤ i
    have rl2 := rl.step e2 ok2
    refine ⟨fun i m Hc => m = ds.length - i ∧ Inv' i Hc, ⟨ds.length, by simp, Nat.zero_le _, G2, μ2, [], [], r, Ext.fresh ok2 hp, ok2.fresh hp, Prv.new ok2 hp, Reps.nil, em, rfl, Nat.le_refl _⟩, ?_⟩
    rintro i m Hc ⟨rfl, hi, Gc, μc, acc, racc, rest, exc, okc, prv, reps, emi, er, hle⟩
    obtain ⟨wstop, wgo⟩ := wk i Gc μc Hc (exc.stay ok2) okc
    by_cases hlt : i < ds.length
    · refine .inr ?_
      have hdi : ds[i]? = some ds[i] := List.getElem?_eq_getElem hlt
      obtain ⟨go, hy⟩ := wgo _ hdi
      refine ⟨go, Inv' (i + 1), fun H' n => ⟨ds.length - (i + 1), by omega, rfl, n⟩, fun x H' y => ?_⟩
      obtain ⟨G', ex', ok', rx⟩ := hy x H' y
      rw [List.drop_eq_getElem_cons hlt] at emi
      obtain ⟨o, rest', μo, ef, emr, ers⟩ := mapItems_cons emi
      unfold compF at ef
      cases eb : bindT t ds[i] (wipeS ρ (own.map (·.2))) with
      | none => rw [eb] at ef; cases ef
      | some ρ1 =>
        rw [eb] at ef
        obtain ⟨k, μk, ek, ef⟩ := bind_ok ef
        have rlw := ((rl2.step exc okc).step ex' ok').wipe (own.map (·.2))
        refine ⟨Z, G', μc, _, [], ds[i], ρ1, rlw, rx, eb, fun σ1 rl1 ag => ?_⟩
        refine ⟨wipe_agree (by rw [← rl1.sl.len]; have := rlw.sl.len; rw [L2.wipe_length] at this; rw [← this]; exact bindT_len eb) sub ag, ?_⟩
        refine ⟨Z, G', μc, ρ1, [], rl1, at_ok ek fun Gk v Hk exk okk rk => ?_⟩
        have rk : k = v := rk
        subst rk
        cases k with
        | false =>
          rw [if_neg Bool.false_ne_true] at ef ⊢
          cases ef
          have exx := ex'.trans exk
          exact ⟨hlt, Gk, _, acc, racc, rest', exc.trans exx, okk, prv.step exx, (exx.stay okc).reps _ _ reps, emr, by rw [er, ers], by omega⟩
        | true =>
          rw [if_pos rfl] at ef ⊢
          obtain ⟨y0, μy, ey, ef⟩ := bind_ok ef
          obtain ⟨d', μz, ed, ef⟩ := bind_ok ef
          have edv : y0.val = some d' ∧ μy = μz := by
            unfold needV at ed
            cases q : y0.val with
            | none => rw [q] at ed; cases ed
            | some w => rw [q] at ed; cases ed; exact ⟨rfl, rfl⟩
          obtain ⟨edv, rfl⟩ := edv
          cases ef
          refine ⟨Z, Gk, μk, ρ1, [], rl1.step exk okk, at_ok ey fun G4 z H4 ex4 ok4 r4 => ?_⟩
          obtain ⟨G5, ex5, ok5, rl5, v5, _⟩ := (rl1.step exk okk).take ex4 ok4 r4
          have exx := (ex'.trans exk).trans ex5
          have prv5 := prv.step exx
          have reps5 := (exx.stay okc).reps _ _ reps
          obtain ⟨q1, q2, q3, q4⟩ := prv5.app (acc' := acc ++ [z]) (exc.trans exx) ok5 hp
          refine ⟨acc, prv5.at_, by rw [← reps.length]; omega, hlt, G5, _, acc ++ [z], racc ++ [d'], rest', q1, q2, q3, ?_, emr, by rw [er, ers]; simp, by simp; omega⟩
          exact q4.reps _ _ (reps5.append (.one (v5 d' edv)))
    · have e : i = ds.length := by omega
      subst e
      rw [List.drop_length] at emi
      cases emi
      refine .inl ⟨wstop rfl, fin Gc _ Hc exc okc ⟨p, acc, rfl, hp, prv.at_, ?_, prv.nf, prv.np⟩⟩
      rw [er, List.append_nil]; exact reps
theorem pe_compp {elt tg iter : Expr} {ifs : List Expr} {scope : Scope} {own : List (Str × Nat)} {t : T} {IT e : E} {co : Option E} (hc : X.calm = true) (hN : X.N.Nodup) (ok : BlkOk X.N X.env.scope scope own) (hi : PI X tg iter (tI X.K Ca W C g IT))
    (hg : ∀ (s : Shared) (H : Hp) (D : Addr) (cl : List (Str × Addr)) (fp : List Addr), PG (X.blk s H scope (compEnvC scope cl D X.env) fp) tg (gT X.K Ca t))
    (ht : ∀ (s : Shared) (H : Hp) (D : Addr) (cl : List (Str × Addr)) (fp : List Addr), PTs (X.blk s H scope (compEnvC scope cl D X.env) fp) ifs (tC' X.K Ca W0 C g co))
    (he : ∀ (s : Shared) (H : Hp) (D : Addr) (cl : List (Str × Addr)) (fp : List Addr), PE (X.blk s H scope (compEnvC scope cl D X.env) fp) elt (tE X.K Ca W0 C g e))
    (hs : ∀ x, foldedSetIterable iter X.env x = pure x) (sub : ∀ i ∈ t.sl, i ∈ own.map (·.2)) : PE X (.ListComp elt [⟨tg, iter, ifs, 0⟩] scope pos) (tE X.K Ca W C g (.comp (own.map (·.2)) t IT co e)) :=
  (pe_lc hc hN hi ok hg ht he hs).weak fun σ H Q h => comp_lc sub h
end
end J
/-! statements. -/
namespace L2
open PySem PySem.Spec PyProof.Rows
theorem PS.weak {X : Cx} {e : Stmt} {t t' : TS} (h : PS X e t) (w : ∀ Dn σ H, t' Dn σ H → t Dn σ H) : PS X e t' := ⟨fun pins s σ H D I q => h.run pins s σ H D I (w D σ H q)⟩
theorem PSs.weak {X : Cx} {e : List Stmt} {t t' : TS} (h : PSs X e t) (w : ∀ Dn σ H, t' Dn σ H → t Dn σ H) : PSs X e t' := ⟨fun pins s σ H D I q => h.run pins s σ H D I (w D σ H q)⟩
end L2
namespace J
open PySem L2 PySem.Spec PyProof.Rows
def AtR (K : PySem.W.Frag) (Ca : Str → Addr) (W : WX) (Z : Ent) (r : Option (Res Flo)) (Dn : Ends) : Prop := match r with
  | some (.ok (.nx ρ1) μ1) => ∀ G1 σ1 H1, Rl K Ca Z G1 μ1 ρ1 [] σ1 H1 → Dn.nx σ1 H1
  | some (.ok (.ct ρ1) μ1) => ∀ G1 σ1 H1, Rl K Ca Z G1 μ1 ρ1 [] σ1 H1 → Dn.ct σ1 H1
  | some (.ok (.rt r) μ1) => ∀ G1 v H1, Ext Z.G Z.μ Z.H G1 μ1 H1 → Okk K Ca G1 μ1 H1 → RvR K [] [] G1 Z.H H1 r v → Dn.rt v H1
  | some (.ok (.ex x ρ1) μ1) => ∀ G1 σ1 H1 cls d, Rl K Ca Z G1 μ1 ρ1 [] σ1 H1 → ExR K Ca x G1 H1 cls d → W cls d σ1 H1
  | _ => False
def tS (K : PySem.W.Frag) (Ca : Str → Addr) (W : WX) (C : Calls) (g : GT) (s : S) : TS := fun Dn σ H => ∃ Z G μ ρ hv, Rl K Ca Z G μ ρ hv σ H ∧ AtR K Ca W Z (evalS C g s ρ μ) Dn
def tSs (K : PySem.W.Frag) (Ca : Str → Addr) (W : WX) (C : Calls) (g : GT) (s : List S) : TS := fun Dn σ H => ∃ Z G μ ρ hv, Rl K Ca Z G μ ρ hv σ H ∧ AtR K Ca W Z (evalSs C g s ρ μ) Dn
section
variable {K : PySem.W.Frag} {Ca : Str → Addr} {W : WX} {C : Calls} {g : GT} {Z : Ent} {G G1 : Gh} {μ μ1 : Sto} {ρ : Env} {hv : List (D × V)} {σ : St} {H H1 : Hp} {Dn : Ends}
theorem AtR.oMb {α : Type} {o : Option α} {k : α → M Flo} (h : AtR K Ca W Z (M.bind (J.oM o) k μ) Dn) : ∃ a, o = some a ∧ AtR K Ca W Z (k a μ) Dn := by
  cases o with
  | none => exact False.elim h
  | some a => exact ⟨a, rfl, h⟩
theorem AtR.val {rv : RV} {k : D → M Flo} {Dn : Ends} (h : AtR K Ca W Z (M.bind (needV rv) k μ) Dn) : ∃ d, rv.val = some d ∧ AtR K Ca W Z (k d μ) Dn := AtR.oMb h
theorem stE_at {α β : Type} {R : Gh → Hp → Hp → α → β → Prop} {m : M α} {k : α → M Flo} (rl : Rl K Ca Z G μ ρ hv σ H) (h : AtR K Ca W Z (stE ρ m k μ) Dn) :
    At K Ca W R σ G μ H m fun x H1 => ∃ a G1 μ1, Ext G μ H G1 μ1 H1 ∧ Okk K Ca G1 μ1 H1 ∧ R G1 H H1 a x ∧ AtR K Ca W Z (k a μ1) Dn := by
  unfold stE at h
  unfold At
  cases q : m μ with
  | none => rw [q] at h; exact h
  | some r =>
    rw [q] at h
    cases r with
    | exc x μ1 => exact fun G1 H1 cls d e ok ex => h G1 σ H1 cls d ((rl.step e ok).drop fun p hp => by cases hp) ex
    | ok a μ1 => exact fun G1 v H1 e ok r => ⟨a, G1, μ1, e, ok, r, h⟩
theorem sE_then {e : E} {k : RV → M Flo} {T : VK} (rl : Rl K Ca Z G μ ρ hv σ H) (h : AtR K Ca W Z (stE ρ (evalE C g e ρ) k μ) Dn)
    (next : ∀ rv x G1 μ1 H1, Ext G μ H G1 μ1 H1 → Rl K Ca Z G1 μ1 ρ ((rv.d, x) :: hv) σ H1 → (∀ d, rv.val = some d → Rep K G1 H1 d x) → (∀ i ds, rv = .bo i ds → ρ[i]? = some (.own ds) ∧ σ[i]? = some (some x)) → AtR K Ca W Z (k rv μ1) Dn → T x H1) : tE K Ca W C g e σ H T := by
  refine ⟨Z, G, μ, ρ, hv, rl, (stE_at (R := RvR K ρ σ) rl h).imp fun G1 μ1 H1 rv x e1 ok1 r1 f => ?_⟩
  obtain ⟨a, G2, μ2, e2, ok2, r2, q⟩ := f x r1
  obtain ⟨G3, e3, ok3, rl3, v3, b3⟩ := rl.take e2 ok2 r2
  exact next a x G3 μ2 H1 e3 rl3 v3 b3 q
theorem sE_raw {e : E} {k : RV → M Flo} {T : VK} (rl : Rl K Ca Z G μ ρ hv σ H) (h : AtR K Ca W Z (stE ρ (evalE C g e ρ) k μ) Dn)
    (next : ∀ rv x G1 μ1 H1, Ext G μ H G1 μ1 H1 → Rl K Ca Z G1 μ1 ρ hv σ H1 → RvR K ρ σ G1 H H1 rv x → AtR K Ca W Z (k rv μ1) Dn → T x H1) : tE K Ca W C g e σ H T := by
  refine ⟨Z, G, μ, ρ, hv, rl, (stE_at (R := RvR K ρ σ) rl h).imp fun G1 μ1 H1 rv x e1 ok1 r1 f => ?_⟩
  obtain ⟨a, G2, μ2, e2, ok2, r2, q⟩ := f x r1
  exact next a x G2 μ2 H1 e2 (rl.step e2 ok2) r2 q
theorem sAs_then {es : List E} {k : List D → M Flo} {T : List V → Hp → Prop} (rl : Rl K Ca Z G μ ρ hv σ H) (h : AtR K Ca W Z (stE ρ (evalEs C g es ρ) k μ) Dn)
    (next : ∀ ds vs G1 μ1 H1, Ext G μ H G1 μ1 H1 → Rl K Ca Z G1 μ1 ρ hv σ H1 → Reps K G1 H1 ds vs → AtR K Ca W Z (k ds μ1) Dn → T vs H1) : tAs K Ca W C g es σ H T := by
  refine ⟨Z, G, μ, ρ, hv, rl, (stE_at (R := RRs K) rl h).imp fun G1 μ1 H1 ds vs e1 ok1 r1 f => ?_⟩
  obtain ⟨ds', G2, μ2, e2, ok2, r2, q⟩ := f vs r1
  exact next ds' vs G2 μ2 H1 e2 (rl.step e2 ok2) r2 q
/-! ### slots' own lists -/
theorem SlR.prv {H0 : Hp} (s : SlR K G H H0 ρ σ) {i : Nat} {ds : List D} (h : ρ[i]? = some (.own ds)) : ∃ a vs, σ[i]? = some (some (.ref a)) ∧ Prv G H a vs ∧ Reps K G H ds vs ∧ H0 a = none := by
  obtain ⟨a, vs, h1, h2, h3, h4, h5, h6⟩ := s.own i ds h
  exact ⟨a, vs, h1, ⟨h2, h4, h5⟩, h3, h6⟩
theorem Rl.updOwn (rl : Rl K Ca Z G μ ρ hv σ H) {i : Nat} {ds ds' : List D} {a : Addr} {vs vs' : List V} (h : ρ[i]? = some (.own ds)) (e : σ[i]? = some (some (.ref a))) (hp : Prv G H a vs) (h0 : Z.H a = none)
    (hr : Stay K G H G (upd H a (.lst vs')) → Reps K G (upd H a (.lst vs')) ds' vs') : Rl K Ca Z G μ (ρ.set i (.own ds')) [] σ (upd H a (.lst vs')) := by
  obtain ⟨q1, q2, q3, q4⟩ := hp.app (acc' := vs') rl.ext rl.ok h0
  have hi : i < ρ.length := (List.getElem?_eq_some_iff.mp h).1
  refine ⟨q1, q2, ⟨by rw [List.length_set]; exact rl.sl.len, fun j d hj => ?_, fun j es hj => ?_, fun j k b es fs h1 h2 h3 h4 => ?_⟩, fun p hp => (by cases hp), rl.anc.trans q4⟩
  · by_cases z : j = i
    · rw [z, List.getElem?_set_self hi] at hj; cases hj
    · rw [List.getElem?_set_ne (Ne.symm z)] at hj
      obtain ⟨v, q5, q6⟩ := rl.sl.val j d hj
      exact ⟨v, q5, q4.rep _ _ q6⟩
  · by_cases z : j = i
    · rw [z, List.getElem?_set_self hi] at hj; cases hj
      rw [z]
      exact ⟨a, vs', e, q3.at_, hr q4, q3.nf, q3.np, h0⟩
    · rw [List.getElem?_set_ne (Ne.symm z)] at hj
      obtain ⟨b, ws, q5, q6, q7, q8, q9, q10⟩ := rl.sl.own j es hj
      have hb : b ≠ a := fun y => z (rl.sl.dis j i a es ds hj h (by rw [← y]; exact q5) e)
      exact ⟨b, ws, q5, by rw [upd_ne hb]; exact q6, q4.reps _ _ q7, q8, q9, q10⟩
  · have un : ∀ (j : Nat) (es : List D), (ρ.set i (.own ds'))[j]? = some (.own es) → ∃ es', ρ[j]? = some (.own es') := fun j es hj => by
      by_cases z : j = i
      · exact ⟨ds, by rw [z]; exact h⟩
      · rw [List.getElem?_set_ne (Ne.symm z)] at hj; exact ⟨es, hj⟩
    obtain ⟨es', h1⟩ := un j es h1
    obtain ⟨fs', h2⟩ := un k fs h2
    exact rl.sl.dis j k b es' fs' h1 h2 h3 h4
theorem Rl.setOwn (rl : Rl K Ca Z G μ ρ hv σ H) {i : Nat} {ds : List D} {a : Addr} {vs : List V} (hi : i < ρ.length) (hp : Prv G H a vs) (hr : Reps K G H ds vs) (h0 : Z.H a = none)
    (hn : ∀ (j : Nat) (es : List D), ρ[j]? = some (.own es) → σ[j]? ≠ some (some (.ref a))) : Rl K Ca Z G μ (ρ.set i (.own ds)) [] (σ.set i (some (.ref a))) H := by
  have hs : i < σ.length := by rw [← rl.sl.len]; exact hi
  refine ⟨rl.ext, rl.ok, ⟨by rw [List.length_set, List.length_set]; exact rl.sl.len, fun j d hj => ?_, fun j es hj => ?_, fun j k b es fs h1 h2 h3 h4 => ?_⟩, fun p hp => (by cases hp), rl.anc⟩
  · by_cases z : j = i
    · rw [z, List.getElem?_set_self hi] at hj; cases hj
    · rw [List.getElem?_set_ne (Ne.symm z)] at hj ⊢; exact rl.sl.val j d hj
  · by_cases z : j = i
    · rw [z, List.getElem?_set_self hi] at hj; cases hj
      rw [z, List.getElem?_set_self hs]
      exact ⟨a, vs, rfl, hp.at_, hr, hp.nf, hp.np, h0⟩
    · rw [List.getElem?_set_ne (Ne.symm z)] at hj ⊢; exact rl.sl.own j es hj
  · by_cases z : j = i
    · by_cases y : k = i
      · rw [z, y]
      · rw [List.getElem?_set_ne (Ne.symm y)] at h2 h4
        rw [z, List.getElem?_set_self hs] at h3; cases h3
        exact absurd h4 (hn k fs h2)
    · rw [List.getElem?_set_ne (Ne.symm z)] at h1 h3
      by_cases y : k = i
      · rw [y, List.getElem?_set_self hs] at h4; cases h4
        exact absurd h3 (hn j es h1)
      · rw [List.getElem?_set_ne (Ne.symm y)] at h2 h4
        exact rl.sl.dis j k b es fs h1 h2 h3 h4
theorem slotO_some {ρ ρ1 : Env} {i : Nat} {s : Slot} (h : slotO ρ i s = some ρ1) : i < ρ.length ∧ ρ1 = ρ.set i s := by
  unfold slotO at h
  split at h
  · cases h; exact ⟨by assumption, rfl⟩
  · cases h
/-- shared from now on -/
theorem Rl.share (rl : Rl K Ca Z G μ ρ hv σ H) {i : Nat} {ds : List D} (h : ρ[i]? = some (.own ds)) : ∃ G', Rl K Ca Z G' μ (ρ.set i (.val (.lst ds))) [] σ H := by
  obtain ⟨a, vs, e, hp, hr, h0⟩ := rl.sl.prv h
  have hi : i < ρ.length := (List.getElem?_eq_some_iff.mp h).1
  have nl : ¬ Lv G μ a := fun ⟨n, _, q, _⟩ => hp.np n q
  have st : Stay K G H (G.frz a) H := ⟨fun _ _ h => h, fun _ f => .inl f, fun _ _ h _ => h, fun _ _ h _ => h⟩
  refine ⟨G.frz a, ⟨rl.ext.pre, rl.ext.new, fun b f => .inl (rl.ext.fz b f), fun b f => f.elim (fun f => rl.ext.fzn b f) fun f => .inr (.inl (by rw [f]; exact h0)), rl.ext.keep, rl.ext.old, rl.ext.lv⟩,
    ⟨rl.ok.len, rl.ok.nd, rl.ok.ex, fun b l f => f.elim (rl.ok.nfz b l) fun f => nl (by rw [← f]; exact l), fun b f => f.elim (rl.ok.fex b) fun f z => (by rw [f, hp.at_] at z; cases z), fun n c b q1 q2 => (rl.ok.cell n c b q1 q2).step st fun _ h => h⟩,
    ⟨by rw [List.length_set]; exact rl.sl.len, fun j d hj => ?_, fun j es hj => ?_, fun j k b es fs h1 h2 h3 h4 => ?_⟩, fun p hp => (by cases hp), rl.anc.trans st⟩
  · by_cases z : j = i
    · rw [z, List.getElem?_set_self hi] at hj; cases hj
      refine ⟨.ref a, by rw [z]; exact e, ?_⟩
      simp only [Rep]
      exact ⟨a, vs, rfl, ⟨.inr rfl, hp.at_⟩, st.reps _ _ hr⟩
    · rw [List.getElem?_set_ne (Ne.symm z)] at hj
      obtain ⟨v, q1, q2⟩ := rl.sl.val j d hj
      exact ⟨v, q1, st.rep _ _ q2⟩
  · by_cases z : j = i
    · rw [z, List.getElem?_set_self hi] at hj; cases hj
    · rw [List.getElem?_set_ne (Ne.symm z)] at hj
      obtain ⟨b, ws, q5, q6, q7, q8, q9, q10⟩ := rl.sl.own j es hj
      exact ⟨b, ws, q5, q6, st.reps _ _ q7, fun f => f.elim q8 fun f => z (rl.sl.dis j i a es ds hj h (by rw [← f]; exact q5) e), q9, q10⟩
  · have un : ∀ (j : Nat) (es : List D), (ρ.set i (.val (.lst ds)))[j]? = some (.own es) → ρ[j]? = some (.own es) := fun j es hj => by
      by_cases z : j = i
      · rw [z, List.getElem?_set_self hi] at hj; cases hj
      · rw [List.getElem?_set_ne (Ne.symm z)] at hj; exact hj
    exact rl.sl.dis j k b es fs (un j es h1) (un k fs h2) h3 h4
end
section
variable {X : Cx} {Ca : Str → Addr} {W : WX} {C : Calls} {g : GT} {a b c o i e tg : Expr} {A B A2 O I' E' : E} {pos : Pos} {st : Stmt} {sts : List Stmt} {s : S} {ss : List S}
/-! ### blocks -/
theorem pss_nill : PSs X [] (tSs X.K Ca W C g []) := pss_nil.weak fun Dn σ H ⟨Z, G, μ, ρ, hv, rl, h⟩ => by
  simp only [evalSs] at h
  exact h G σ H (rl.drop fun p hp => by cases hp)
theorem seq_core {Dn : Ends} {σ : St} {H : Hp} (h : tSs X.K Ca W C g (s :: ss) Dn σ H) : tSeq (tS X.K Ca W C g s) (tSs X.K Ca W C g ss) Dn σ H := by
  obtain ⟨Z, G, μ, ρ, hv, rl, h⟩ := h
  refine ⟨Z, G, μ, ρ, hv, rl, ?_⟩
  simp only [evalSs] at h
  unfold M.bind at h
  cases q : evalS C g s ρ μ with
  | none => rw [q] at h; exact h
  | some r =>
    rw [q] at h
    cases r with
    | exc x μ1 => exact h
    | ok f μ1 =>
      cases f with
      | nx ρ1 => exact fun G1 σ1 H1 rl1 => ⟨Z, G1, μ1, ρ1, [], rl1, h⟩
      | ct ρ1 => exact h
      | rt r => exact h
      | ex x ρ1 => exact h
theorem pss_conss (h1 : PS X st (tS X.K Ca W C g s)) (h2 : PSs X sts (tSs X.K Ca W C g ss)) : PSs X (st :: sts) (tSs X.K Ca W C g (s :: ss)) := (pss_cons h1 h2).weak fun Dn σ H h => seq_core h
theorem pss_share {i : Nat} (h2 : PSs X sts (tSs X.K Ca W C g ss)) : PSs X sts (tSs X.K Ca W C g (.share i :: ss)) := h2.weak fun Dn σ H h => by
  obtain ⟨Z, G, μ, ρ, hv, rl, h⟩ := seq_core h
  simp only [evalS] at h
  cases q : ρ[i]? with
  | none => rw [q] at h; exact False.elim h
  | some s =>
    rw [q] at h
    cases s with
    | own ds =>
      obtain ⟨G', rl'⟩ := rl.share q
      exact h G' σ H rl'
    | _ => exact False.elim h
/-! ### stores -/
theorem ps_asgg {t : T} (he : PE X e (tE X.K Ca W C g A)) (hg : PG X tg (gT X.K Ca t)) (hs : swapsWithSole [tg] e pos.line X.env = pure false) (hw : swappedStores [tg] e X.env = pure none) (h1 : (assignEach [tg] X.env).map (·.2) = [assign tg X.env]) :
    PS X (.Assign [tg] e pos) (tS X.K Ca W C g (.asg t A)) := (ps_asg he hg hs hw h1).weak fun Dn σ H ⟨Z, G, μ, ρ, hv, rl, h⟩ => by
  simp only [evalS] at h
  refine sE_then rl h fun rv x G1 μ1 H1 _ rl1 v1 _ h => ?_
  obtain ⟨d, ed, h⟩ := h.val
  obtain ⟨ρ1, eb, h⟩ := h.oMb
  exact ⟨Z, G1, μ1, ρ, _, d, ρ1, rl1, v1 d ed, eb, fun σ1 rl2 _ => h G1 σ1 H1 rl2⟩
/-- a name, by any rule that stores it -/
theorem name_core {i : Nat} {Dn : Ends} {σ : St} {H : Hp} (h : tS X.K Ca W C g (.asg (.nm i) A) Dn σ H) : tAsg (tE X.K Ca W C g A) (gName i) Dn σ H := by
  obtain ⟨Z, G, μ, ρ, hv, rl, h⟩ := h
  simp only [evalS] at h
  refine sE_then rl h fun rv x G1 μ1 H1 _ rl1 v1 _ h => ?_
  obtain ⟨d, ed, h⟩ := h.val
  obtain ⟨ρ1, eb, h⟩ := h.oMb
  simp only [bindT] at eb
  split at eb
  · rename_i hi
    cases eb
    exact h G1 _ H1 (rl1.setVal (v1 d ed) hi)
  · cases eb
theorem own_core {i : Nat} {Dn : Ends} {σ : St} {H : Hp} (h : tS X.K Ca W C g (.own i A) Dn σ H) : tAsg (tE X.K Ca W C g A) (gName i) Dn σ H := by
  obtain ⟨Z, G, μ, ρ, hv, rl, h⟩ := h
  simp only [evalS] at h
  refine sE_raw rl h fun rv x G1 μ1 H1 e1 rl1 r1 h => ?_
  cases rv with
  | v d => exact False.elim h
  | bo j ds => exact False.elim h
  | fr ds =>
    obtain ⟨ρ1, eb, h⟩ := h.oMb
    obtain ⟨hi, rfl⟩ := slotO_some eb
    obtain ⟨p, vs, rfl, q0, q1, q2, q3, q4⟩ := r1
    refine h G1 _ H1 (rl1.setOwn hi ⟨q1, q3, q4⟩ q2 (rl.ext.old p q0) fun j es hj ej => ?_)
    obtain ⟨a', _, e', e'', _⟩ := rl.sl.own j es hj
    rw [ej] at e'; cases e'
    rw [q0] at e''; cases e''
theorem ps_namee {i : Nat} {x : Str} {pos' : Pos} (hN : X.N.Nodup) (hi : X.N[i]? = some x) (hx : Loc X.env.scope x) (he : PE X e (tE X.K Ca W C g A)) (hs : swapsWith e (some (.Name x pos')) pos.line X.env = pure false) (hf : X.fn x = true ∨ X.env.scope.names.lookup x = some .local) :
    PS X (.Assign [.Name x pos'] e pos) (tS X.K Ca W C g (.asg (.nm i) A)) := (ps_set hN hi hx he hs hf).weak fun Dn σ H h => name_core h
theorem ps_ownn {i : Nat} {x : Str} {pos' : Pos} (hN : X.N.Nodup) (hi : X.N[i]? = some x) (hx : Loc X.env.scope x) (he : PE X e (tE X.K Ca W C g A)) (hs : swapsWith e (some (.Name x pos')) pos.line X.env = pure false) (hf : X.fn x = true ∨ X.env.scope.names.lookup x = some .local) :
    PS X (.Assign [.Name x pos'] e pos) (tS X.K Ca W C g (.own i A)) := (ps_set hN hi hx he hs hf).weak fun Dn σ H h => own_core h
/-- name = [..] -/
theorem ps_setLcc {j : Nat} {y : Str} {py spos : Pos} {elt iter : Expr} {ifs : List Expr} {scope : Scope} {own : List (Str × Nat)} {t : T} {IT e : E} {co : Option E} (hc : X.calm = true) (hN : X.N.Nodup) (hy : X.N[j]? = some y) (hyl : X.env.scope.names.lookup y = some .local)
    (hsw : swapsWith (.ListComp elt [⟨tg, iter, ifs, 0⟩] scope pos) (some (.Name y py)) spos.line X.env = pure true) (ok : BlkOk X.N X.env.scope scope own) (hi : PI X tg iter (tI X.K Ca W C g IT))
    (hg : ∀ (s : Shared) (H : Hp) (D : Addr) (cl : List (Str × Addr)) (fp : List Addr), PG (X.blk s H scope (compEnvC scope cl D X.env) fp) tg (gT X.K Ca t))
    (ht : ∀ (s : Shared) (H : Hp) (D : Addr) (cl : List (Str × Addr)) (fp : List Addr), PTs (X.blk s H scope (compEnvC scope cl D X.env) fp) ifs (tC' X.K Ca W0 C g co))
    (he : ∀ (s : Shared) (H : Hp) (D : Addr) (cl : List (Str × Addr)) (fp : List Addr), PE (X.blk s H scope (compEnvC scope cl D X.env) fp) elt (tE X.K Ca W0 C g e))
    (hs : ∀ x, foldedSetIterable iter X.env x = pure x) (sub : ∀ i ∈ t.sl, i ∈ own.map (·.2)) :
    PS X (.Assign [.Name y py] (.ListComp elt [⟨tg, iter, ifs, 0⟩] scope pos) spos) (tAsg (tE X.K Ca W C g (.comp (own.map (·.2)) t IT co e)) (gName j)) :=
  (ps_setLc hc hN hy hyl hsw hi ok hg ht he hs).weak fun Dn σ H h => comp_lc sub h
theorem ps_parr {i j : Nat} {x y : Str} {px py pt : Pos} {kt : Nat} {k2 : Nat} {pt2 : Pos} (hc : X.calm = true) (hN : X.N.Nodup) (hi : X.N[i]? = some x) (hj : X.N[j]? = some y) (hij : i ≠ j)
    (hx : X.env.scope.names.lookup x = some .local) (hy : X.env.scope.names.lookup y = some .local) (ha : PA X [a, b] (tAs X.K Ca W C g [A, B])) (hw : swappedStores [.Tuple [.Name x px, .Name y py] kt pt] (.Tuple [a, b] k2 pt2) X.env = pure (some [x, y]))
    (hs : swapsWithSole [.Tuple [.Name x px, .Name y py] kt pt] (.Tuple [a, b] k2 pt2) pos.line X.env = pure false) :
    PS X (.Assign [.Tuple [.Name x px, .Name y py] kt pt] (.Tuple [a, b] k2 pt2) pos) (tS X.K Ca W C g (.par2 i j A B)) := (ps_par hc hN hi hj hij hx hy ha hw hs).weak fun Dn σ H ⟨Z, G, μ, ρ, hv, rl, h⟩ => by
  simp only [evalS] at h
  refine sAs_then rl h fun ds vs G1 μ1 H1 _ rl1 rs h => ?_
  cases ds with
  | nil => exact False.elim h
  | cons d r =>
    cases r with
    | nil => exact False.elim h
    | cons d2 r =>
      cases r with
      | cons d3 r => exact False.elim h
      | nil =>
        simp only [Reps] at rs
        obtain ⟨v, _, rfl, hv1, w, _, rfl, hw1, rfl⟩ := rs
        obtain ⟨ρ1, e1, h1⟩ := h.oMb
        obtain ⟨ρ2, e2, h2⟩ := h1.oMb
        obtain ⟨hi1, rfl⟩ := slotO_some e1
        obtain ⟨hi2, rfl⟩ := slotO_some e2
        exact ⟨v, w, rfl, h2 G1 _ H1 ((rl1.setVal hv1 hi1).setVal hw1 hi2)⟩
theorem ps_parr3 {i j l : Nat} {x y z : Str} {px py pz pt : Pos} {kt : Nat} {k2 : Nat} {pt2 : Pos} (hc : X.calm = true) (hN : X.N.Nodup) (hi : X.N[i]? = some x) (hj : X.N[j]? = some y) (hl : X.N[l]? = some z) (hij : i ≠ j) (hil : i ≠ l) (hjl : j ≠ l)
    (hx : X.env.scope.names.lookup x = some .local) (hy : X.env.scope.names.lookup y = some .local) (hz : X.env.scope.names.lookup z = some .local) (ha : PA X [a, b, c] (tAs X.K Ca W C g [A, B, A2]))
    (hw : swappedStores [.Tuple [.Name x px, .Name y py, .Name z pz] kt pt] (.Tuple [a, b, c] k2 pt2) X.env = pure (some [x, y, z]))
    (hs : swapsWithSole [.Tuple [.Name x px, .Name y py, .Name z pz] kt pt] (.Tuple [a, b, c] k2 pt2) pos.line X.env = pure false) :
    PS X (.Assign [.Tuple [.Name x px, .Name y py, .Name z pz] kt pt] (.Tuple [a, b, c] k2 pt2) pos) (tS X.K Ca W C g (.par3 i j l A B A2)) := (ps_par3 hc hN hi hj hl hij hil hjl hx hy hz ha hw hs).weak fun Dn σ H ⟨Z, G, μ, ρ, hv, rl, h⟩ => by
  simp only [evalS] at h
  refine sAs_then rl h fun ds vs G1 μ1 H1 _ rl1 rs h => ?_
  match ds, rs, h with
  | [d, d2, d3], rs, h =>
    simp only [Reps] at rs
    obtain ⟨v, _, rfl, hv1, w, _, rfl, hw1, u, _, rfl, hu1, rfl⟩ := rs
    obtain ⟨ρ1, e1, h1⟩ := h.oMb
    obtain ⟨ρ2, e2, h2⟩ := h1.oMb
    obtain ⟨ρ3, e3, h3⟩ := h2.oMb
    obtain ⟨hi1, rfl⟩ := slotO_some e1
    obtain ⟨hi2, rfl⟩ := slotO_some e2
    obtain ⟨hi3, rfl⟩ := slotO_some e3
    exact ⟨v, w, u, rfl, h3 G1 _ H1 (((rl1.setVal hv1 hi1).setVal hw1 hi2).setVal hu1 hi3)⟩
  | [], _, h => exact False.elim h
  | [_], _, h => exact False.elim h
  | [_, _], _, h => exact False.elim h
  | _ :: _ :: _ :: _ :: _, _, h => exact False.elim h
/-! ### lists and dicts written -/
def rSet : TSet := fun o i v H Q => rSetL o i v H Q ∨ rSetD o i v H Q
theorem set_both (hu : X.A.units + 1 < cLine) : PSet X rSet := by
  intro pins s σ H o i v ov iv u Q I ro ri rv h
  rcases h with h | h
  · exact set_list pins s σ H o i v ov iv u Q I ro ri rv h
  · exact set_dict hu pins s σ H o i v ov iv u Q I ro ri rv h
theorem setD_some {ds ds' : List D} {i d : D} (h : setD ds i d = some ds') : ∃ k j, i = .int k ∧ ixN ds.length k = some j ∧ ds' = ds.set j d := by
  unfold setD at h
  split at h
  · obtain ⟨j, e, rfl⟩ := Option.map_eq_some_iff.mp h
    exact ⟨_, j, rfl, e, rfl⟩
  · cases h
theorem setK_put {K : PySem.W.Frag} {G : Gh} {H : Hp} {kvs : List (Key × D)} {vs : List (Key × V)} {k : Key} {d : D} {v : V} (r : KvR K G H kvs vs) (rv : Rep K G H d v) : KvR K G H (setK kvs k d) (putK vs k v) := by
  unfold setK putK
  exact KvR.put k r rv
theorem put_core {Z : Ent} {G : Gh} {μ : Sto} {ρ : Env} {hv : List (D × V)} {σ : St} {H : Hp} {Dn : Ends} {y : RV} {p q v : V} {di d : D} (rl : Rl X.K Ca Z G μ ρ hv σ H) (hy : Hd X.K G H ρ σ y.d p) (hb : ∀ i ds, y = .bo i ds → ρ[i]? = some (.own ds) ∧ σ[i]? = some (some p))
    (hi : Hd X.K G H ρ σ di q) (hd : Rep X.K G H d v) (h : AtR X.K Ca W Z (putM ρ y di d μ) Dn) : rSet p q v H fun H' => Dn.nx σ H' := by
  cases y with
  | fr ds => exact False.elim h
  | bo k ds =>
    obtain ⟨ds', es, h⟩ := h.oMb
    obtain ⟨kk, j, rfl, ej, rfl⟩ := setD_some es
    obtain ⟨h1, h2⟩ := hb k ds rfl
    obtain ⟨a, vs, e1, hp, hr, h0⟩ := rl.sl.prv h1
    rw [h2] at e1; cases e1
    refine .inl ⟨a, vs, kk, j, rfl, hi.int, hp.at_, by rw [← hr.length]; exact ej, ?_⟩
    exact h G σ _ (rl.updOwn h1 h2 hp h0 fun st => (st.reps _ _ hr).set j (st.rep _ _ hd))
  | v dd =>
    cases dd with
    | ref n =>
      unfold putM at h
      cases em : μ[n]? with
      | none => simp only [em] at h; exact h.elim
      | some c =>
        obtain ⟨a, rfl, hn, hc⟩ := rl.cellAt hy em
        cases c with
        | lst xs =>
          obtain ⟨vs, h1, r1⟩ := hc
          simp only [em] at h
          cases es : setD xs di d with
          | none => rw [es] at h; exact h.elim
          | some ds' =>
            rw [es] at h
            obtain ⟨kk, j, rfl, ej, rfl⟩ := setD_some es
            obtain ⟨e2, ok2⟩ := putCell (Ca := Ca) (c' := .lst (xs.set j d)) (o := .lst (vs.set j v)) rl.ok hn em (by intro z; cases z) fun st => ⟨_, upd_same, (st.reps _ _ r1).set j (st.rep _ _ hd)⟩
            exact .inl ⟨a, vs, kk, j, rfl, hi.int, h1, by rw [← r1.length]; exact ej, h G σ _ ((rl.step e2 ok2).drop fun p hp => by cases hp)⟩
        | dct kvs =>
          obtain ⟨vs, h1, r1⟩ := hc
          simp only [em] at h
          cases ek : keyD di with
          | none => rw [ek] at h; exact h.elim
          | some k =>
            simp only [ek, Option.bind_some] at h
            by_cases hz : kvs.length < sizeLine
            · rw [if_pos hz] at h
              obtain ⟨e2, ok2⟩ := putCell (Ca := Ca) (c' := .dct (setK kvs k d)) (o := .dK (putK vs k v)) rl.ok hn em (by intro z; cases z) fun st => ⟨_, upd_same, setK_put (st.kv _ _ r1) (st.rep _ _ hd)⟩
              exact .inr ⟨a, _, rfl, .inl ⟨vs, k, h1, hi.key ek, by rw [← r1.length]; exact hz, rfl⟩, h G σ _ ((rl.step e2 ok2).drop fun p hp => by cases hp)⟩
            · rw [if_neg hz] at h; exact h.elim
        | _ => simp only [em] at h; exact h.elim
    | _ => exact False.elim h
theorem ps_putt {k : Nat} {tpos : Pos} (hr : Room k X.A) (ho : PE X o (tE X.K Ca W C g O)) (hi : PE X i (tE X.K Ca W C g I')) (he : PE X e (tE X.K Ca W C g E'))
    (ha : ∀ v, assign (.Subscript o i tpos) X.env v = (do
      let ov ← holding [v] (eval o X.env)
      let iv ← holding [v, ov] (eval i X.env)
      standAt tpos
      holding [v, ov, iv] (setItem ov iv v)
      release [v, ov, iv] []))
    (hs : swapsWithSole [.Subscript o i tpos] e pos.line X.env = pure false) (hw : swappedStores [.Subscript o i tpos] e X.env = pure none) (h1 : (assignEach [.Subscript o i tpos] X.env).map (·.2) = [assign (.Subscript o i tpos) X.env]) :
    PS X (.Assign [.Subscript o i tpos] e pos) (tS X.K Ca W C g (.put O I' E')) :=
  (ps_asg he (pg_sub ho hi (set_both (by have := hr.un; omega)) ha) hs hw h1).weak fun Dn σ H ⟨Z, G, μ, ρ, hv, rl, h⟩ => by
    simp only [evalS] at h
    refine sE_then rl h fun x v G1 μ1 H1 _ rl1 v1 _ h => ?_
    obtain ⟨d, ed, h⟩ := h.val
    have hd1 := v1 d ed
    refine sE_then rl1 h fun y p G2 μ2 H2 e2 rl2 _ b2 h => ?_
    refine sE_then rl2 h fun z q G3 μ3 H3 e3 rl3 _ _ h => ?_
    exact put_core rl3 (rl3.hv _ (List.mem_cons_of_mem _ List.mem_cons_self)) b2 (rl3.hv _ List.mem_cons_self) ((e3.stay rl2.ok).rep _ _ ((e2.stay rl1.ok).rep _ _ hd1)) h
theorem isLst_ok {Z : Ent} {Dn : Ends} {rv : RV} {μ : Sto} {k : Unit → M Flo} {K : PySem.W.Frag} (h : AtR K Ca W Z (M.bind (isLst rv) k μ) Dn) : AtR K Ca W Z (k () μ) Dn ∧ ((∃ i ds, rv = .bo i ds) ∨ ∃ n xs, rv = .v (.ref n) ∧ μ[n]? = some (.lst xs)) := by
  cases rv with
  | bo i ds => exact ⟨h, .inl ⟨i, ds, rfl⟩⟩
  | fr ds => exact False.elim h
  | v d =>
    cases d with
    | ref n =>
      unfold M.bind isLst at h
      cases em : μ[n]? with
      | none => simp only [em] at h; exact h.elim
      | some c =>
        cases c with
        | lst xs => simp only [em] at h; exact ⟨h, .inr ⟨n, xs, rfl, em⟩⟩
        | _ => simp only [em] at h; exact h.elim
    | _ => exact False.elim h
/-- the list ahead of an append -/
theorem ext_ty {Z : Ent} {G : Gh} {μ : Sto} {ρ : Env} {hv : List (D × V)} {σ : St} {H : Hp} {y : RV} {p : V} (rl : Rl X.K Ca Z G μ ρ hv σ H) (hy : Hd X.K G H ρ σ y.d p) (hb : ∀ i ds, y = .bo i ds → ρ[i]? = some (.own ds) ∧ σ[i]? = some (some p))
    (h : (∃ i ds, y = .bo i ds) ∨ ∃ n xs, y = .v (.ref n) ∧ μ[n]? = some (.lst xs)) : tyV X.K "list" p H := by
  rcases h with ⟨i, ds, rfl⟩ | ⟨n, xs, rfl, em⟩
  · obtain ⟨h1, h2⟩ := hb i ds rfl
    obtain ⟨a, vs, e1, hp, hr, h0⟩ := rl.sl.prv h1
    rw [h2] at e1; cases e1
    exact .inl ⟨rfl, vs, .inl (.inl hp.at_)⟩
  · obtain ⟨a, rfl, hn, vs, h1, r1⟩ := rl.cellAt hy em
    exact .inl ⟨rfl, vs, .inl (.inl h1)⟩
theorem ext_core {Z : Ent} {G : Gh} {μ : Sto} {ρ : Env} {hv : List (D × V)} {σ : St} {H : Hp} {Dn : Ends} {y : RV} {p : V} {ds : List D} {ws : List V} (rl : Rl X.K Ca Z G μ ρ hv σ H) (hy : Hd X.K G H ρ σ y.d p) (hb : ∀ i ds, y = .bo i ds → ρ[i]? = some (.own ds) ∧ σ[i]? = some (some p))
    (hr : Reps X.K G H ds ws) (h : AtR X.K Ca W Z (extM ρ y ds μ) Dn) : ∃ a vs, p = .ref a ∧ H a = some (.lst vs) ∧ vs.length + ws.length ≤ sizeLine ∧ Dn.nx σ (upd H a (.lst (vs ++ ws))) := by
  cases y with
  | fr ds => exact False.elim h
  | bo k xs =>
    simp only [extM] at h
    obtain ⟨h1, h2⟩ := hb k xs rfl
    obtain ⟨a, vs, e1, hp, hr1, h0⟩ := rl.sl.prv h1
    rw [h2] at e1; cases e1
    by_cases hz : xs.length + ds.length ≤ sizeLine
    · rw [if_pos hz] at h
      exact ⟨a, vs, rfl, hp.at_, by rw [← hr1.length, ← hr.length]; exact hz, h G σ _ (rl.updOwn h1 h2 hp h0 fun st => (st.reps _ _ hr1).append (st.reps _ _ hr))⟩
    · rw [if_neg hz] at h; exact False.elim h
  | v dd =>
    cases dd with
    | ref n =>
      unfold extM at h
      cases em : μ[n]? with
      | none => simp only [em] at h; exact h.elim
      | some c =>
        obtain ⟨a, rfl, hn, hc⟩ := rl.cellAt hy em
        cases c with
        | lst xs =>
          obtain ⟨vs, h1, r1⟩ := hc
          simp only [em] at h
          by_cases hz : xs.length + ds.length ≤ sizeLine
          · rw [if_pos hz] at h
            obtain ⟨e2, ok2⟩ := putCell (Ca := Ca) (c' := .lst (xs ++ ds)) (o := .lst (vs ++ ws)) rl.ok hn em (by intro z; cases z) fun st => ⟨_, upd_same, (st.reps _ _ r1).append (st.reps _ _ hr)⟩
            exact ⟨a, vs, rfl, h1, by rw [← r1.length, ← hr.length]; exact hz, h G σ _ ((rl.step e2 ok2).drop fun p hp => by cases hp)⟩
          · rw [if_neg hz] at h; exact h.elim
        | _ => simp only [em] at h; exact h.elim
    | _ => exact False.elim h
theorem ps_appp {apos cpos : Pos} (ho : PE X o (tE X.K Ca W C g O)) (he : PA X [e] (tAs X.K Ca W C g [E'])) (hbase : attributeBase o "append" X.env (eval o X.env) = eval o X.env)
    (hfew : ((backTo cpos (starEach (e :: []) X.env)).all (fun x => !x.1) && (backToKw cpos (keywordEach [] X.env)).all (fun x => x.1.isSome) && decide ((e :: []).length + ([] : List Keyword).length + (if ([] : List Keyword).isEmpty then 0 else 1) < 30)) = true)
    (hline : (apos.endLine == cpos.line) = true) (hs : starEach [e] X.env = (false, eval e X.env) :: starEach [] X.env) (hpl : (backTo cpos (starEach [] X.env)).any (·.1) = false) (hsw : swapsWith (.Call (.Attribute o "append" apos) [e] [] cpos) none pos.line X.env = pure false) :
    PS X (.Expr (.Call (.Attribute o "append" apos) [e] [] cpos) pos) (tS X.K Ca W C g (.app O E')) :=
  (ps_expr (pe_bm F.plainAttrs_list F.slot_list_append F.type_list_append mt_append ho he hbase hfew hline hs hpl) hsw).weak fun Dn σ H ⟨Z, G, μ, ρ, hv, rl, h⟩ => by
    simp only [evalS] at h
    refine sE_then rl h fun y p G1 μ1 H1 _ rl1 v1 b1 h => ?_
    obtain ⟨h, hl⟩ := isLst_ok h
    refine ⟨ext_ty rl1 (rl1.hv _ List.mem_cons_self) b1 hl, ?_⟩
    refine sAs_then rl1 h fun ds ws G2 μ2 H2 _ rl2 rs h => ?_
    match ds, rs, h with
    | [d], rs, h =>
      have rs0 := rs
      simp only [Reps] at rs
      obtain ⟨w, _, rfl, hw, rfl⟩ := rs
      obtain ⟨a, vs, rfl, h1, hz, q⟩ := ext_core rl2 (rl2.hv _ List.mem_cons_self) b1 rs0 h
      exact ⟨a, vs, w, rfl, rfl, h1, by simp at hz; omega, q⟩
    | [], _, h => exact False.elim h
    | _ :: _ :: _, _, h => exact False.elim h
end
end J
/-! loops, returns. -/
namespace J
open PySem L2 PySem.Spec PyProof.Rows
section
variable {X : Cx} {Ca : Str → Addr} {W : WX} {C : Calls} {g : GT} {a b c o i e tg iter : Expr} {A B A2 O I' E' IT : E} {pos : Pos} {st : Stmt} {sts as bs : List Stmt} {s : S} {ss As Bs : List S}
theorem ps_extt {apos cpos : Pos} (ho : PE X o (tE X.K Ca W C g O)) (he : PA X [e] (tAs X.K Ca W C g [E'])) (hbase : attributeBase o "extend" X.env (eval o X.env) = eval o X.env)
    (hfew : ((backTo cpos (starEach (e :: []) X.env)).all (fun x => !x.1) && (backToKw cpos (keywordEach [] X.env)).all (fun x => x.1.isSome) && decide ((e :: []).length + ([] : List Keyword).length + (if ([] : List Keyword).isEmpty then 0 else 1) < 30)) = true)
    (hline : (apos.endLine == cpos.line) = true) (hs : starEach [e] X.env = (false, eval e X.env) :: starEach [] X.env) (hpl : (backTo cpos (starEach [] X.env)).any (·.1) = false) (hsw : swapsWith (.Call (.Attribute o "extend" apos) [e] [] cpos) none pos.line X.env = pure false) :
    PS X (.Expr (.Call (.Attribute o "extend" apos) [e] [] cpos) pos) (tS X.K Ca W C g (.ext O E')) :=
  (ps_expr (pe_bm F.plainAttrs_list F.slot_list_extend F.type_list_extend mt_extend ho he hbase hfew hline hs hpl) hsw).weak fun Dn σ H ⟨Z, G, μ, ρ, hv, rl, h⟩ => by
    simp only [evalS] at h
    refine sE_then rl h fun y p G1 μ1 H1 _ rl1 v1 b1 h => ?_
    obtain ⟨h, hl⟩ := isLst_ok h
    refine ⟨ext_ty rl1 (rl1.hv _ List.mem_cons_self) b1 hl, ?_⟩
    refine sAs_then rl1 h fun ds ws G2 μ2 H2 _ rl2 rs h => ?_
    match ds, rs, h with
    | [.lst es], rs, h =>
      simp only [Reps] at rs
      obtain ⟨w, _, rfl, hw, rfl⟩ := rs
      obtain ⟨q, zs, rfl, hq, rq⟩ := lsR_of hw
      obtain ⟨a, vs, rfl, h1, hz, q'⟩ := ext_core rl2 (rl2.hv _ List.mem_cons_self) b1 rq h
      exact ⟨a, q, vs, zs, rfl, rfl, h1, hq.2, hz, q'⟩
    | [], _, h => exact False.elim h
    | [.non], _, h => exact False.elim h
    | [.bl _], _, h => exact False.elim h
    | [.int _], _, h => exact False.elim h
    | [.str _], _, h => exact False.elim h
    | [.tup _], _, h => exact False.elim h
    | [.ref _], _, h => exact False.elim h
    | [.src _], _, h => exact False.elim h
    | d :: _ :: _, _, h => cases d <;> exact False.elim h
theorem ps_rett (he : PE X e (tE X.K Ca W C g A)) : PS X (.Return (some e) pos) (tS X.K Ca W C g (.ret A)) :=
  (ps_ret he).weak fun Dn σ H ⟨Z, G, μ, ρ, hv, rl, h⟩ => by
    simp only [evalS] at h
    refine sE_raw rl h fun rv x G1 μ1 H1 e1 rl1 r1 h => ?_
    refine h G1 x H1 rl1.ext rl1.ok ?_
    cases rv with
    | v d => exact r1
    | fr ds =>
      obtain ⟨p, vs, rfl, q0, q1, q2, q3, q4⟩ := r1
      exact ⟨p, vs, rfl, rl.ext.old p q0, q1, q2, q3, q4⟩
    | bo i ds =>
      obtain ⟨h1, h2⟩ := r1
      obtain ⟨a, vs, e1, hp, hr, h0⟩ := rl1.sl.prv h1
      rw [h2] at e1; cases e1
      exact ⟨a, vs, rfl, h0, hp.at_, hr, hp.nf, hp.np⟩
theorem ps_iff (hc : PT X c (tT X.K Ca W C g A)) (ha : PSs X as (tSs X.K Ca W C g As)) (hb : PSs X bs (tSs X.K Ca W C g Bs)) : PS X (.If c as bs pos) (tS X.K Ca W C g (.ifs A As Bs)) :=
  (ps_if hc ha hb).weak fun Dn σ H ⟨Z, G, μ, ρ, hv, rl, h⟩ => by
    simp only [evalS] at h
    refine ⟨Z, G, μ, ρ, hv, rl, (stE_at (R := RB) rl h).imp fun G1 μ1 H1 k k' e1 ok1 r1 f => ?_⟩
    obtain ⟨k2, G2, μ2, e2, ok2, r2, q⟩ := f k' r1
    have r2 : k2 = k' := r2
    subst r2
    cases k2 with
    | true => rw [if_pos rfl] at q ⊢; exact ⟨Z, G2, μ2, ρ, hv, rl.step e2 ok2, q⟩
    | false => rw [if_neg Bool.false_ne_true] at q ⊢; exact ⟨Z, G2, μ2, ρ, hv, rl.step e2 ok2, q⟩
theorem ps_exprr (he : PE X e (tE X.K Ca W C g A)) (hs : swapsWith e none pos.line X.env = pure false) : PS X (.Expr e pos) (tS X.K Ca W C g (.expr A)) :=
  (ps_expr he hs).weak fun Dn σ H ⟨Z, G, μ, ρ, hv, rl, h⟩ => by
    simp only [evalS] at h
    exact sE_then rl h fun rv x G1 μ1 H1 e1 rl1 _ _ h => h G1 σ H1 (rl1.drop fun p hp => by cases hp)
theorem ps_passs : PS X (.Pass pos) (tS X.K Ca W C g .pass) := ps_pass.weak fun Dn σ H ⟨Z, G, μ, ρ, hv, rl, h⟩ => by
  simp only [evalS] at h
  exact h G σ H (rl.drop fun p hp => by cases hp)
theorem ps_contt : PS X (.Continue pos) (tS X.K Ca W C g .cont) := ps_continue.weak fun Dn σ H ⟨Z, G, μ, ρ, hv, rl, h⟩ => by
  simp only [evalS] at h
  exact h G σ H (rl.drop fun p hp => by cases hp)
/-! ### for -/
theorem stE_bind {α β : Type} {ρ : Env} {m : M α} {f : α → M β} {k : β → M Flo} : stE ρ (M.bind m f) k = stE ρ m fun a => stE ρ (f a) k := by
  funext μ
  unfold stE M.bind
  cases m μ with
  | none => rfl
  | some r => cases r <;> rfl
theorem stE_oM {β : Type} {ρ : Env} {o : Option β} {k : β → M Flo} : stE ρ (oM o) k = M.bind (oM o) k := by
  cases o <;> rfl
theorem fors_eq {t : T} {it : E} {b : List S} {ρ : Env} : evalS C g (.fors t it b) ρ = stE ρ (evalW C g it ρ) fun ds => eachM (fun d ρ => M.bind (oM (bindT t d ρ)) fun ρ1 => evalSs C g b ρ1) ds ρ := by
  simp only [evalS]
  unfold evalW
  rw [stE_bind]
  congr 1
  funext x
  cases x
  · exact stE_oM.symm
  · exact stE_oM.symm
  · rfl
/-- another anchor -/
def Ent.at (Z : Ent) (G : Gh) (H : Hp) : Ent := ⟨Z.G, Z.μ, Z.H, G, H⟩
section
variable {K : PySem.W.Frag} {Z : Ent} {G G1 : Gh} {μ μ1 : Sto} {ρ : Env} {hv : List (D × V)} {σ : St} {H H1 : Hp} {Dn : Ends}
theorem Rl.to (rl : Rl K Ca Z G μ ρ hv σ H) : Rl K Ca (Z.at G H) G μ ρ hv σ H := ⟨rl.ext, rl.ok, rl.sl, rl.hv, Stay.refl _ _⟩
theorem Rl.back {G0 : Gh} {H0 : Hp} (st : Stay K Z.Ga Z.Ha G0 H0) (rl : Rl K Ca (Z.at G0 H0) G μ ρ hv σ H) : Rl K Ca Z G μ ρ hv σ H := ⟨rl.ext, rl.ok, rl.sl, rl.hv, st.trans rl.anc⟩
theorem AtR.to {G0 : Gh} {H0 : Hp} (st : Stay K Z.Ga Z.Ha G0 H0) {r : Option (Res Flo)} (h : AtR K Ca W Z r Dn) : AtR K Ca W (Z.at G0 H0) r Dn := by
  unfold AtR at h ⊢
  split at h
  · exact fun G1 σ1 H1 rl => h G1 σ1 H1 (rl.back st)
  · exact fun G1 σ1 H1 rl => h G1 σ1 H1 (rl.back st)
  · exact h
  · exact fun G1 σ1 H1 cls d rl => h G1 σ1 H1 cls d (rl.back st)
  · exact h.elim
end
theorem ps_forr {t : T} (hp : PassesOwn (model X.prog X.w) X.A X.env X.xe) (hc : X.calm = true) (hi : PI X tg iter (tI X.K Ca W C g IT)) (hg : PG X tg (gT X.K Ca t)) (hb : PSs X bs (tSs X.K Ca W C g Bs)) (hs : ∀ x, foldedSetIterable iter X.env x = pure x) :
    PS X (.For tg iter bs [] pos) (tS X.K Ca W C g (.fors t IT Bs)) :=
  (ps_for hp hc hi hg hb hs).weak fun Dn σ H ⟨Z, G, μ, ρ, hv, rl, h⟩ => by
    rw [fors_eq] at h
    refine ⟨Z, G, μ, ρ, hv, rl, (stE_at (R := RW X.K Ca) rl h).imp fun G1' μ1' H1 ds' Jt e1' ok1' r1' f => ?_⟩
    obtain ⟨ds, G2, μ2, e2, ok2, r2, q⟩ := f Jt r1'
    have rl2 := (rl.step e2 ok2).drop (hw := []) fun p hp => by cases hp
    have q3 := q.to rl2.anc
    have rl3 := rl2.to
    clear q h f
    refine ⟨fun i m σ' Hc => m = ds.length - i ∧ i ≤ ds.length ∧ ∃ Gc μc ρc, Rl X.K Ca (Z.at G2 H1) Gc μc ρc [] σ' Hc ∧ AtR X.K Ca W (Z.at G2 H1) (eachM (fun d ρ => M.bind (oM (bindT t d ρ)) fun ρ1 => evalSs C g Bs ρ1) (ds.drop i) ρc μc) Dn,
      ⟨ds.length, by simp, Nat.zero_le _, G2, μ2, ρ, rl3, q3⟩, ?_⟩
    rintro i m σ' Hc ⟨rfl, hi, Gc, μc, ρc, rlc, ac⟩
    obtain ⟨wstop, wgo⟩ := r2 i Gc μc Hc rlc.anc rlc.ok
    by_cases hlt : i < ds.length
    · obtain ⟨go, hy⟩ := wgo _ (List.getElem?_eq_getElem hlt)
      rw [List.drop_eq_getElem_cons hlt] at ac
      simp only [eachM] at ac
      refine .inr ⟨go, fun σ2 H2 => ∃ Gc μc ρc, Rl X.K Ca (Z.at G2 H1) Gc μc ρc [] σ2 H2 ∧ AtR X.K Ca W (Z.at G2 H1) (eachM (fun d ρ => M.bind (oM (bindT t d ρ)) fun ρ1 => evalSs C g Bs ρ1) (ds.drop (i + 1)) ρc μc) Dn,
        fun σ2 H2 n => ⟨ds.length - (i + 1), by omega, rfl, hlt, n⟩, fun x H' y => ?_⟩
      obtain ⟨G', ex', ok', rx⟩ := hy x H' y
      cases eb : bindT t ds[i] ρc with
      | none => rw [eb] at ac; exact False.elim ac
      | some ρ1 =>
        rw [eb] at ac
        refine ⟨Z.at G2 H1, G', μc, ρc, [], ds[i], ρ1, rlc.step ex' ok', rx, eb, fun σ1 rl1 _ => ⟨Z.at G2 H1, G', μc, ρ1, [], rl1, ?_⟩⟩
        have ac : AtR X.K Ca W (Z.at G2 H1) (M.bind (evalSs C g Bs ρ1) (fun o => match o with
          | .nx ρ1 => eachM (fun d ρ => M.bind (oM (bindT t d ρ)) fun ρ1 => evalSs C g Bs ρ1) (ds.drop (i + 1)) ρ1
          | .ct ρ1 => eachM (fun d ρ => M.bind (oM (bindT t d ρ)) fun ρ1 => evalSs C g Bs ρ1) (ds.drop (i + 1)) ρ1
          | y => M.pure y) μc) Dn := ac
        unfold M.bind at ac
        cases q : evalSs C g Bs ρ1 μc with
        | none => rw [q] at ac; exact ac
        | some r =>
          rw [q] at ac
          cases r with
          | exc x μ1 => exact ac
          | ok f μ1 =>
            cases f with
            | nx ρ2 => exact fun G1 σ1 H1 rl1 => ⟨G1, μ1, ρ2, rl1, ac⟩
            | ct ρ2 => exact fun G1 σ1 H1 rl1 => ⟨G1, μ1, ρ2, rl1, ac⟩
            | rt r => exact ac
            | ex x ρ2 => exact ac
    · have e : i = ds.length := by omega
      subst e
      rw [List.drop_length] at ac
      simp only [eachM] at ac
      exact .inl ⟨wstop rfl, ac Gc σ' Hc rlc⟩
/-! ### while -/
inductive Runs {σ β : Type} (step : σ → Option (σ ⊕ β)) : Nat → σ → β → Prop
  | stop {s : σ} {b : β} (h : step s = some (.inr b)) : Runs step 0 s b
  | go {n : Nat} {s s' : σ} {b : β} (h : step s = some (.inl s')) (r : Runs step n s' b) : Runs step (n + 1) s b
theorem loopF_runs {σ β : Type} {step : σ → Option (σ ⊕ β)} {b : β} : ∀ {n : Nat} {s : σ}, loopF step n s = some b → ∃ m, m < n ∧ Runs step m s b
  | 0, s, h => by cases h
  | n + 1, s, h => by
    simp only [loopF] at h
    cases q : step s with
    | none => rw [q] at h; cases h
    | some r =>
      rw [q] at h
      cases r with
      | inl s' =>
        obtain ⟨m, hm, hr⟩ := loopF_runs (n := n) (s := s') h
        exact ⟨m + 1, by omega, .go q hr⟩
      | inr b' =>
        cases h
        exact ⟨0, by omega, .stop q⟩
theorem runs_loopF {σ β : Type} {step : σ → Option (σ ⊕ β)} {m n : Nat} {s : σ} {b : β} (h : Runs step m s b) (hm : m < n) : loopF step n s = some b := by
  induction h generalizing n with
  | stop h =>
    cases n with
    | zero => omega
    | succ n => simp only [loopF, h]
  | go h _ ih =>
    cases n with
    | zero => omega
    | succ n => simp only [loopF, h]; exact ih (by omega)
theorem ps_whll (hp : PassesOwn (model X.prog X.w) X.A X.env X.xe) (hc : PT X c (tT X.K Ca W C g A)) (hb : PSs X bs (tSs X.K Ca W C g Bs)) : PS X (.While c bs [] pos) (tS X.K Ca W C g (.whl A Bs)) :=
  (ps_while hp hc hb).weak fun Dn σ H ⟨Z, G, μ, ρ, hv, rl, h⟩ => by
    simp only [evalS] at h
    cases q : loopF (whlStep (fun ρ => evalT C g A ρ) (fun ρ => evalSs C g Bs ρ)) fuelW (ρ, μ) with
    | none => rw [q] at h; exact False.elim h
    | some r =>
      rw [q] at h
      obtain ⟨n, _, hn⟩ := loopF_runs q
      refine ⟨fun m σ' H' => ∃ Gc μc ρc, Rl X.K Ca Z Gc μc ρc [] σ' H' ∧ Runs (whlStep (fun ρ => evalT C g A ρ) (fun ρ => evalSs C g Bs ρ)) m (ρc, μc) r, ⟨n, G, μ, ρ, rl.drop (fun p hp => by cases hp), hn⟩, ?_⟩
      rintro m σ' H' ⟨Gc, μc, ρc, rlc, hr⟩
      refine ⟨Z, Gc, μc, ρc, [], rlc, ?_⟩
      unfold At
      cases qt : evalT C g A ρc μc with
      | none =>
        cases hr with
        | stop z => unfold whlStep at z; simp only [qt] at z; cases z
        | go z _ => unfold whlStep at z; simp only [qt] at z; cases z
      | some rt =>
        cases rt with
        | exc x μ1 =>
          intro G1 H1 cls d e ok ex
          cases hr with
          | stop z =>
            unfold whlStep at z
            simp only [qt, Option.some.injEq, Sum.inr.injEq] at z
            subst z
            exact h G1 σ' H1 cls d (rlc.step e ok) ex
          | go z _ => unfold whlStep at z; simp only [qt] at z; cases z
        | ok k μ1 =>
          intro G1 v H1 e ok rk
          have rk : k = v := rk
          subst rk
          have rl1 := rlc.step e ok
          cases k with
          | false =>
            rw [if_neg Bool.false_ne_true]
            cases hr with
            | stop z =>
              unfold whlStep at z
              simp only [qt, Option.some.injEq, Sum.inr.injEq] at z
              subst z
              exact h G1 σ' H1 rl1
            | go z _ => unfold whlStep at z; simp only [qt] at z; cases z
          | true =>
            rw [if_pos rfl]
            cases hr with
            | stop z =>
              refine ⟨fun _ _ => False, fun _ _ f => f.elim, Z, G1, μ1, ρc, [], rl1, ?_⟩
              unfold whlStep at z
              simp only [qt] at z
              cases qb : evalSs C g Bs ρc μ1 with
              | none => rw [qb] at z; cases z
              | some rb =>
                rw [qb] at z
                cases rb with
                | exc x μ2 => simp only [Option.some.injEq, Sum.inr.injEq] at z; subst z; exact h
                | ok f μ2 =>
                  cases f with
                  | nx ρ2 => cases z
                  | ct ρ2 => cases z
                  | rt r => simp only [Option.some.injEq, Sum.inr.injEq] at z; subst z; exact h
                  | ex x ρ2 => simp only [Option.some.injEq, Sum.inr.injEq] at z; subst z; exact h
            | @go n' _ s' _ z rest =>
              obtain ⟨ρ2, μ2⟩ := s'
              refine ⟨fun σ2 H2 => ∃ G2, Rl X.K Ca Z G2 μ2 ρ2 [] σ2 H2, fun σ2 H2 ⟨G2, rl2⟩ => ⟨n', Nat.lt_succ_self _, G2, μ2, ρ2, rl2, rest⟩, Z, G1, μ1, ρc, [], rl1, ?_⟩
              unfold whlStep at z
              simp only [qt] at z
              cases qb : evalSs C g Bs ρc μ1 with
              | none => rw [qb] at z; cases z
              | some rb =>
                rw [qb] at z
                cases rb with
                | exc x μ3 => cases z
                | ok f μ3 =>
                  cases f with
                  | nx ρ3 => cases z; exact fun G1 σ1 H1 rl1 => ⟨G1, rl1⟩
                  | ct ρ3 => cases z; exact fun G1 σ1 H1 rl1 => ⟨G1, rl1⟩
                  | rt r => cases z
                  | ex x ρ3 => cases z
end
end J
/-! dict displays. -/
namespace J
open PySem L2 PySem.Spec PyProof.Rows
theorem updFree {K : PySem.W.Frag} {Ca : Str → Addr} {Gb G : Gh} {μb μ : Sto} {Hb H : Hp} {p : Addr} {o o' : HO} (hp : H p = some o) (nf : ¬ G.Fz p) (np : ∀ n : Nat, G.φ[n]? ≠ some p) (no : ∀ xs, o ≠ .tup xs ∧ ∀ ob, o ≠ .frz ob (.tup xs)) (e : Ext Gb μb Hb G μ H) (ok : Okk K Ca G μ H) (hb : Hb p = none) :
    Ext Gb μb Hb G μ (upd H p o') ∧ Okk K Ca G μ (upd H p o') ∧ Stay K G H G (upd H p o') := by
  have st : Stay K G H G (upd H p o') := ⟨fun _ _ h => h, fun _ h => h, fun b v q t => by
      have : b ≠ p := fun z => by
        rw [z, hp] at q; cases q
        obtain ⟨xs, t⟩ := t
        rcases t with t | ⟨ob, t⟩
        · exact (no xs).1 t
        · exact (no xs).2 ob t
      rw [upd_ne this]; exact q, fun b v q f => by
      have : b ≠ p := fun z => nf (z ▸ f)
      rw [upd_ne this]; exact q⟩
  have none_ : ∀ b, upd H p o' b = none → H b = none := fun b q => by
    by_cases z : b = p
    · rw [z, upd_same] at q; cases q
    · rw [upd_ne z] at q; exact q
  refine ⟨⟨e.pre, e.new, e.fz, e.fzn, fun b v q nl => ?_, fun b q => e.old b (none_ b q), e.lv⟩, ⟨ok.len, ok.nd, fun n b q z => ok.ex n b q (none_ b z), ok.nfz, fun b f z => ok.fex b f (none_ b z), fun n c b q1 q2 => ?_⟩, st⟩
  · rw [upd_ne (fun z => by rw [z, hb] at q; cases q)]; exact e.keep b v q nl
  · refine (ok.cell n c b q1 q2).step st fun v q => ?_
    rw [upd_ne (fun z => np n (by rw [← z]; exact q2))]; exact q
section
variable {X : Cx} {Ca : Str → Addr} {W : WX} {C : Calls} {g : GT} {pos : Pos}
def pairV (ks : List Key) (vs : List V) : List (V × V) := (ks.zip vs).map fun kv => (kV kv.1, kv.2)
def RP (K : PySem.W.Frag) (ks : List Key) : Gh → Hp → Hp → List D → List (V × V) → Prop := fun G _ H ds ps => ∃ vs, ps = pairV ks vs ∧ Reps K G H ds vs ∧ ks.length = vs.length
theorem RP.mono {K : PySem.W.Frag} {ks : List Key} : Mono (RP K ks) := fun _ _ _ _ _ _ _ r => r
def tPr (K : PySem.W.Frag) (Ca : Str → Addr) (W : WX) (C : Calls) (g : GT) (ks : List Key) (Es : List E) : St → Hp → (List (V × V) → Hp → Prop) → Prop := fun σ H Q => ∃ Z G μ ρ hv, Rl K Ca Z G μ ρ hv σ H ∧ ks.length = Es.length ∧ At K Ca W (RP K ks) σ G μ H (evalEs C g Es ρ) Q
def keyE : Key → Expr → Prop
  | .inl i, e => ∃ k p, e = .Constant (.int i) k p
  | .inr x, e => ∃ k p, e = .Constant (.str x) k p
theorem pe_key {k : Key} {e : Expr} (h : keyE k e) : PE X e (tC (kV k)) := by
  cases k with
  | inl i => obtain ⟨k, p, rfl⟩ := h; exact pe_int
  | inr x => obtain ⟨k, p, rfl⟩ := h; exact pe_str
def PrOk (X : Cx) (pos : Pos) (keys : List (Option Expr)) (vals : List Expr) (t : St → Hp → (List (V × V) → Hp → Prop) → Prop) : Prop := ∃ trs, PPs X pos keys vals trs ∧ ∀ σ H Q, t σ H Q → tPairs trs σ H Q
theorem pr_nil : PrOk X pos [] [] (tPr X.K Ca W C g [] []) := ⟨[], pps_nil, fun σ H Q ⟨Z, G, μ, ρ, hv, rl, _, h⟩ => by
  simp only [evalEs] at h
  exact h.pure rl.ok ⟨[], rfl, Reps.nil, rfl⟩⟩
theorem pr_cons {k : Key} {ks : List Key} {kx a : Expr} {keys : List (Option Expr)} {vals : List Expr} {A : E} {Es : List E} (hk : keyE k kx) (ha : PE X a (tE X.K Ca W C g A)) (h : PrOk X pos keys vals (tPr X.K Ca W C g ks Es)) : PrOk X pos (some kx :: keys) (a :: vals) (tPr X.K Ca W C g (k :: ks) (A :: Es)) := by
  obtain ⟨trs, h1, h2⟩ := h
  refine ⟨_, pps_cons (pe_key hk) ha h1, fun σ H Q ⟨Z, G, μ, ρ, hv, rl, hl, h⟩ => ?_⟩
  simp only [evalEs] at h
  show tE X.K Ca W C g A σ H fun y H2 => tPairs trs σ H2 fun ps H3 => Q ((kV k, y) :: ps) H3
  refine tE_then RP.mono rl h fun x v G1 μ1 H1 _ rl1 v1 _ h => ?_
  obtain ⟨d, ed, h⟩ := val_of h
  refine h2 _ _ _ ⟨Z, G1, μ1, ρ, _, rl1, by simpa using hl, (At.bind (R := RP X.K ks) RP.mono h).imp fun G2 μ2 H2 ds ps e2 ok2 r2 f => ?_⟩
  obtain ⟨ds', G3, μ3, e3, ok3, ⟨vs, rfl, r3, l3⟩, q⟩ := f ps r2
  exact (q G3 e3 ok3).pure ok3 ⟨v :: vs, rfl, Reps.cons ((e3.stay rl1.ok).rep _ _ (v1 d ed)) r3, by simp [l3]⟩
theorem putK_new {κ : Type} [DecidableEq κ] {kvs : List (κ × V)} {k : κ} {v : V} (h : k ∉ kvs.map (·.1)) : putK kvs k v = kvs ++ [(k, v)] := by
  unfold putK
  rw [if_neg]
  intro q
  obtain ⟨p, hp, e⟩ := List.any_eq_true.mp q
  exact h (List.mem_map.mpr ⟨p, hp, by simpa using e⟩)
theorem mergeK_new : ∀ (more kvs : List (Key × V)), ((kvs ++ more).map (·.1)).Nodup → mergeK kvs more = kvs ++ more
  | [], kvs, _ => by simp [mergeK]
  | p :: r, kvs, h => by
    have e : putK kvs p.1 p.2 = kvs ++ [p] := putK_new (by
      rw [List.map_append, List.map_cons] at h
      have := (List.nodup_append.mp h).2.2
      intro hm
      exact this _ hm _ List.mem_cons_self rfl)
    show mergeK (putK kvs p.1 p.2) r = _
    rw [e, mergeK_new r (kvs ++ [p]) (by simpa using h)]
    simp
theorem KvR.zip {K : PySem.W.Frag} {G : Gh} {H : Hp} : ∀ {ks : List Key} {ds : List D} {vs : List V}, Reps K G H ds vs → ks.length = vs.length → KvR K G H (ks.zip ds) (ks.zip vs)
  | [], ds, vs, _, _ => by simp [KvR]
  | k :: ks, [], vs, h, l => by simp only [Reps] at h; subst h; simp at l
  | k :: ks, d :: ds, vs, h, l => by
    simp only [Reps] at h
    obtain ⟨v, r, rfl, h1, h2⟩ := h
    exact ⟨v, _, rfl, h1, KvR.zip h2 (by simpa using l)⟩
theorem dct_end {Z : Ent} {G G1 : Gh} {μ μ1 : Sto} {ρ : Env} {hv : List (D × V)} {σ : St} {H H1 : Hp} {p : Addr} {kvs : List (Key × D)} {vs : List (Key × V)} (rl : Rl X.K Ca Z G μ ρ hv σ H) (hp : H p = none) (e : Ext G μ (upd H p (.dK [])) G1 μ1 H1) (ok : Okk X.K Ca G1 μ1 H1) (h1 : H1 p = some (.dK []))
    (r : KvR X.K G1 H1 kvs vs) : Ext G μ H ⟨G1.φ ++ [p], G1.Fz⟩ (μ1 ++ [.dct kvs]) (upd H1 p (.dK vs)) ∧ Okk X.K Ca ⟨G1.φ ++ [p], G1.Fz⟩ (μ1 ++ [.dct kvs]) (upd H1 p (.dK vs)) := by
  have e0 : Ext G μ H G μ (upd H p (.dK [])) := Ext.fresh rl.ok hp
  have ok0 : Okk X.K Ca G μ (upd H p (.dK [])) := rl.ok.fresh hp
  have ex := e0.trans e
  have nf : ¬ G1.Fz p := fun f => by
    rcases e.fzn p f with f | f | ⟨n, _, f, _⟩
    · exact rl.ok.fex p f hp
    · rw [upd_same] at f; cases f
    · exact rl.ok.ex n p f hp
  have np : ∀ n : Nat, G1.φ[n]? ≠ some p := fun n f => by
    rcases e.new n p f with f | f
    · exact rl.ok.ex n p f hp
    · rw [upd_same] at f; cases f
  obtain ⟨q1, q2, q3⟩ := updFree (o' := .dK vs) h1 nf np (fun xs => ⟨(by intro z; cases z), fun ob => (by intro z; cases z)⟩) ex ok hp
  refine newCell q1 q2 hp (by rw [upd_same]; intro z; cases z) nf np ?_ (by intro z; cases z)
  have st : Stay X.K G1 (upd H1 p (.dK vs)) ⟨G1.φ ++ [p], G1.Fz⟩ (upd H1 p (.dK vs)) := ⟨fun n a h => by
    show (G1.φ ++ [p])[n]? = some a
    obtain ⟨hl, _⟩ := List.getElem?_eq_some_iff.mp h
    rw [List.getElem?_append_left hl]; exact h, fun _ h => h, fun _ _ h _ => h, fun _ _ h _ => h⟩
  exact ⟨vs, upd_same, st.kv _ _ (q3.kv _ _ r)⟩
theorem pe_dctt {keys : List (Option Expr)} {vals : List Expr} {ks : List Key} {Es : List E} (h : PrOk X pos keys vals (tPr X.K Ca W C g ks Es)) (hall : keys.all (·.isSome) = true) (hl : keys.length = vals.length) (h0 : keys ≠ []) (h15 : keys.length ≤ 15) (hE : ks.length = Es.length) :
    PE X (.Dict keys vals pos) (tE X.K Ca W C g (.dct ks Es)) := by
  obtain ⟨trs, h1, h2⟩ := h
  refine (pe_disp h1 hall hl h0 h15).weak fun σ H Q ⟨Z, G, μ, ρ, hv, rl, h⟩ => ?_
  intro p hp
  simp only [evalE] at h
  refine h2 _ _ _ ?_
  have e0 : Ext G μ H G μ (upd H p (.dK [])) := Ext.fresh rl.ok hp
  have ok0 : Okk X.K Ca G μ (upd H p (.dK [])) := rl.ok.fresh hp
  -- the new dict is seen by nobody
  unfold At M.bind at h
  refine ⟨Z, G, μ, ρ, hv, rl.step e0 ok0, hE, ?_⟩
  unfold At
  cases q : evalEs C g Es ρ μ with
  | none => rw [q] at h; exact h
  | some r =>
    rw [q] at h
    cases r with
    | exc x μ1 => exact fun G1 H1 cls d e ok ex => h G1 H1 cls d (e0.trans e) ok ex
    | ok ds μ1 =>
      intro G1 ps H1 e1 ok1 r1
      obtain ⟨vs, rfl, rs, l⟩ := r1
      have hp1 : H1 p = some (.dK []) := e1.keep p _ upd_same fun ⟨n, _, f, _⟩ => rl.ok.ex n p f hp
      by_cases hc : ds.length = ks.length ∧ ks.length ≤ 15 ∧ ks.Nodup
      · have h : ∀ G2 v H2, Ext G μ H G2 (μ1 ++ [.dct (ks.zip ds)]) H2 → Okk X.K Ca G2 (μ1 ++ [.dct (ks.zip ds)]) H2 → RvR X.K ρ σ G2 H H2 (.v (.ref μ1.length)) v → Q v H2 := by
          simp only [if_pos hc] at h
          exact h
        obtain ⟨q1, q2⟩ := dct_end rl hp e1 ok1 hp1 (KvR.zip rs l)
        have em : mergeK [] (ks.zip vs) = ks.zip vs := mergeK_new _ _ (by
          rw [List.nil_append, List.map_fst_zip (by omega)]; exact hc.2.2)
        refine ⟨hp1, ks.zip vs, rfl, by rw [List.length_zip, l, Nat.min_self, ← l]; exact hc.2.1, ?_⟩
        rw [em]
        refine h _ _ _ q1 q2 ?_
        show Rep X.K ⟨G1.φ ++ [p], G1.Fz⟩ (upd H1 p (.dK (ks.zip vs))) (.ref μ1.length) (.ref p)
        simp only [Rep]
        refine ⟨p, rfl, ?_⟩
        show (G1.φ ++ [p])[μ1.length]? = some p
        rw [ok1.len, List.getElem?_append_right (Nat.le_refl _)]
        simp
      · simp only [if_neg hc] at h
        exact h.elim
theorem pe_dct0 : PE X (.Dict [] [] pos) (tE X.K Ca W C g (.dct [] [])) := pe_dnewK.weak fun σ H Q ⟨Z, G, μ, ρ, hv, rl, h⟩ => by
  intro p hp
  simp only [evalE, evalEs] at h
  have h : ∀ G2 v H2, Ext G μ H G2 (μ ++ [.dct []]) H2 → Okk X.K Ca G2 (μ ++ [.dct []]) H2 → RvR X.K ρ σ G2 H H2 (.v (.ref μ.length)) v → Q v H2 := h
  have e0 : Ext G μ (upd H p (.dK [])) G μ (upd H p (.dK [])) := Ext.refl _ _ _
  obtain ⟨q1, q2⟩ := dct_end (kvs := []) (vs := []) rl hp e0 (rl.ok.fresh hp) upd_same rfl
  have ee : upd (upd H p (.dK [])) p (.dK []) = upd H p (.dK []) := by
    funext b
    by_cases z : b = p
    · rw [z, upd_same, upd_same]
    · rw [upd_ne z]
  rw [ee] at q1 q2
  refine h _ _ _ q1 q2 ?_
  show Rep X.K ⟨G.φ ++ [p], G.Fz⟩ (upd H p (.dK [])) (.ref μ.length) (.ref p)
  simp only [Rep]
  refine ⟨p, rfl, ?_⟩
  show (G.φ ++ [p])[μ.length]? = some p
  rw [rl.ok.len, List.getElem?_append_right (Nat.le_refl _)]
  simp
end
end J
/-! more constructs. -/
namespace J
open PySem L2 PySem.Spec PyProof.Rows
section
variable {X : Cx} {Ca : Str → Addr} {W : WX} {C : Calls} {g : GT} {a b c o i e : Expr} {A B A2 O I' E' : E} {pos : Pos}
/-! ### isinstance(x, (list, tuple)) -/
theorem kitB_lt : ∀ (K : PySem.W.Frag) (d : D), (∀ k, d ≠ .ref k) → PySem.W.kitAny K (.type (tyD d)) [.type "list", .type "tuple"] = some (isListD d || isTupleD d) := fun K d n => by
  have h1 := kit_ty (K := K) (kitB_list d n)
  have h2 := kit_ty (K := K) (kitB_tuple d n)
  unfold PySem.W.kitAny
  rw [h1]
  cases isListD d with
  | true => rfl
  | false =>
    simp only [Bool.false_or]
    unfold PySem.W.kitAny
    rw [h2]
    cases isTupleD d <;> rfl
theorem isLT_ok : CallR X (.builtin "isinstance") (fun xs H Q => ∃ Z G μ ρ hv σ d x tp, xs = [x, .ref tp] ∧ H tp = some (.tup [.ty "list", .ty "tuple"]) ∧ (∀ k, d ≠ .ref k) ∧ Rl X.K Ca Z G μ ρ hv σ H ∧ Hd X.K G H ρ σ d x ∧ At X.K Ca W (RvR X.K ρ σ) σ G μ H (M.pure (.v (.bl (isListD d || isTupleD d)))) Q) := by
  intro pins s σ0 H xs us Q I r h
  obtain ⟨Z, G, μ, ρ, hv, σ, d, x, tp, rfl, hT, n, rl, hd, q⟩ := h
  exact call_isiT pins s σ0 H _ us Q I r ⟨x, tp, [.ty "list", .ty "tuple"], .type (tyD d), [.type "list", .type "tuple"], _, rfl, hT, .cons (.ty "list") (.cons (.ty "tuple") .nil), tyX_of rl hd n, kitB_lt _ d n, same_of rl.ok q rBl⟩
theorem pe_isLTT {x y1 y2 : Str} {p p1 p2 pt : Pos} {kt : Nat} (hg : Gl X x) (hm : X.mg x = none) (hv : bootBuiltins x = some (.builtin "isinstance")) (hg1 : Gl X y1) (hm1 : X.mg y1 = none) (hv1 : bootBuiltins y1 = some (.type "list")) (hg2 : Gl X y2) (hm2 : X.mg y2 = none) (hv2 : bootBuiltins y2 = some (.type "tuple"))
    (ha : PE X a (tE X.K Ca W C g A)) (hn : x ≠ "__name__") (hdb : (x == ("__debug__" : Str)) = false) (hn1 : y1 ≠ "__name__") (hdb1 : (y1 == ("__debug__" : Str)) = false) (hn2 : y2 ≠ "__name__") (hdb2 : (y2 == ("__debug__" : Str)) = false)
    (n1 : starEach [a, .Tuple [.Name y1 p1, .Name y2 p2] kt pt] X.env = (false, eval a X.env) :: starEach [.Tuple [.Name y1 p1, .Name y2 p2] kt pt] X.env)
    (n2 : starEach [.Tuple [.Name y1 p1, .Name y2 p2] kt pt] X.env = (false, eval (.Tuple [.Name y1 p1, .Name y2 p2] kt pt) X.env) :: starEach [] X.env)
    (hpl : (backTo pos (starEach [.Tuple [.Name y1 p1, .Name y2 p2] kt pt] X.env)).any (·.1) = false) : PE X (.Call (.Name x p) [a, .Tuple [.Name y1 p1, .Name y2 p2] kt pt] [] pos) (tE X.K Ca W C g (.blt .isLT [A])) := by
  have e1 : starEach [.Name y1 p1, .Name y2 p2] X.env = (false, eval (.Name y1 p1) X.env) :: starEach [.Name y2 p2] X.env := rfl
  have e2 : starEach [.Name y2 p2] X.env = (false, eval (.Name y2 p2) X.env) :: starEach [] X.env := rfl
  have ht := pe_tup (X := X) (pos := pt) (x1 := kt) (pa_cons (pe_bltn (v := .ty "list") (pos := p1) hg1 hm1 hv1 rfl hn1 hdb1) (pa_cons (pe_bltn (v := .ty "tuple") (pos := p2) hg2 hm2 hv2 rfl hn2 hdb2) pa_nil e2) e1)
  refine (pe_callB (isLT_ok (X := X) (Ca := Ca) (W := W)) hg hm hv (pa_cons ha (pa_cons ht pa_nil n2) n1) hn hdb n1 hpl).weak fun σ H Q ⟨Z, G, μ, ρ, hv, rl, h⟩ => ?_
  simp only [evalE, evalBs, M.bind_assoc, M.pure_bind] at h
  refine tE_then RvR.mono rl h fun x v G1 μ1 H1 _ rl1 _ _ h => ?_
  have hn : ∀ k, x.d ≠ .ref k := fun k e => by rw [e] at h; exact h
  have e : bltM .isLT [x.d] = oM (some (.v (.bl (isListD x.d || isTupleD x.d)))) := by
    funext μ
    have : bltD .isLT [x.d] = some (.v (.bl (isListD x.d || isTupleD x.d))) := by
      show isiD x.d _ = _
      cases q : x.d <;> first | rfl | exact absurd q (hn _)
    unfold bltM
    split
    · cases ‹Blt.isLT = _›
    · cases ‹Blt.isLT = _›
    · cases ‹Blt.isLT = _›
    · rw [this]
  rw [e] at h
  refine ⟨by show 2 ≤ sizeLine; rw [sizeLine_eq]; decide, fun t ht => ?_⟩
  have ef := Ext.fresh (o := .tup [.ty "list", .ty "tuple"]) rl1.ok ht
  have okf := rl1.ok.fresh (o := .tup [.ty "list", .ty "tuple"]) ht
  have rl2 := rl1.step ef okf
  refine ⟨Z, G1, μ1, ρ, _, σ, x.d, v, t, rfl, upd_same, hn, rl2, rl2.hv _ List.mem_cons_self, ?_⟩
  exact h.shift RvR.mono ef
/-! ### t[::-1], t[-2::-1] -/
theorem back_lo {cut : Bool} {lo : Option Expr} {p1 p2 : Pos} {k : Nat} (h : lo = if cut then some (.UnaryOp .USub (.Constant (.int 2) k p1) p2) else none) : PO X lo (fun σ H Q => Q (if cut then some (-2) else none) H) := by
  cases cut with
  | false => rw [h]; exact po_none
  | true =>
    rw [h]
    exact (po_some (pe_un un_neg (pe_int (X := X) (i := 2)))).weak fun σ H Q q => ⟨2, rfl, -2, rfl, q⟩
theorem pe_revtt {cut : Bool} {lo : Option Expr} {k : Nat} {p1 p2 p3 : Pos} (hlo : PO X lo (fun σ H Q => Q (if cut then some (-2) else none) H)) (ha : PE X a (tE X.K Ca W C g A)) :
    PE X (.Subscript a (.Slice lo none (some (.UnaryOp .USub (.Constant (.int 1) k p1) p2)) p3) pos) (tE X.K Ca W C g (.revt cut A)) :=
  (pe_backT hlo ha).weak fun σ H Q ⟨Z, G, μ, ρ, hv, rl, h⟩ => by
    simp only [evalE] at h
    refine tE_then RvR.mono rl h fun x v G1 μ1 H1 _ rl1 _ _ h => ?_
    have hx := rl1.hv _ List.mem_cons_self
    cases e2 : x.d with
    | tup ds =>
      rw [e2] at h hx
      obtain ⟨p, vs, rfl, h1, r1⟩ := hx.tup
      refine ⟨p, vs, rfl, h1, newT rl1.ok h ?_⟩
      unfold backL
      cases cut
      · exact r1.reverse
      · exact r1.dropLast.reverse
    | _ => rw [e2] at h; exact False.elim h
/-! ### lists changed as a whole -/
variable {st : Stmt}
theorem chg_core {Z : Ent} {G : Gh} {μ : Sto} {ρ : Env} {hv : List (D × V)} {σ : St} {H : Hp} {Dn : Ends} {y : RV} {p : V} {f : List D → List D} {fv : List V → List V} (hf : ∀ G H ds vs, Reps X.K G H ds vs → Reps X.K G H (f ds) (fv vs)) (rl : Rl X.K Ca Z G μ ρ hv σ H) (hy : Hd X.K G H ρ σ y.d p)
    (h : AtR X.K Ca W Z (chgM ρ y f μ) Dn) : ∃ a vs, p = .ref a ∧ H a = some (.lst vs) ∧ Dn.nx σ (upd H a (.lst (fv vs))) := by
  cases y with
  | fr ds => exact False.elim h
  | bo k xs => exact False.elim h
  | v dd =>
    cases dd with
    | ref n =>
      unfold chgM at h
      cases em : μ[n]? with
      | none => simp only [em] at h; exact h.elim
      | some c =>
        obtain ⟨a, rfl, hn, hc⟩ := rl.cellAt hy em
        cases c with
        | lst xs =>
          obtain ⟨vs, h1, r1⟩ := hc
          simp only [em] at h
          obtain ⟨e2, ok2⟩ := putCell (Ca := Ca) (c' := .lst (f xs)) (o := .lst (fv vs)) rl.ok hn em (by intro z; cases z) fun st => ⟨_, upd_same, hf _ _ _ _ (st.reps _ _ r1)⟩
          exact ⟨a, vs, rfl, h1, h G σ _ ((rl.step e2 ok2).drop fun p hp => by cases hp)⟩
        | _ => simp only [em] at h; exact h.elim
    | _ => exact False.elim h
theorem ins_core {Z : Ent} {G : Gh} {μ : Sto} {ρ : Env} {hv : List (D × V)} {σ : St} {H : Hp} {Dn : Ends} {y : RV} {p v : V} {k : Int} {d : D} (rl : Rl X.K Ca Z G μ ρ hv σ H) (hy : Hd X.K G H ρ σ y.d p) (hd : Rep X.K G H d v)
    (h : AtR X.K Ca W Z (insM ρ y (.int k) d μ) Dn) : ∃ a vs, p = .ref a ∧ H a = some (.lst vs) ∧ vs.length < sizeLine ∧ 0 ≤ k ∧ k < 2 ^ 63 ∧ Dn.nx σ (upd H a (.lst (vs.take k.toNat ++ [v] ++ vs.drop k.toNat))) := by
  cases y with
  | fr ds => exact False.elim h
  | bo k xs => exact False.elim h
  | v dd =>
    cases dd with
    | ref n =>
      unfold insM at h
      cases em : μ[n]? with
      | none => simp only [em] at h; exact h.elim
      | some c =>
        obtain ⟨a, rfl, hn, hc⟩ := rl.cellAt hy em
        cases c with
        | lst xs =>
          obtain ⟨vs, h1, r1⟩ := hc
          simp only [em] at h
          by_cases hz : xs.length < sizeLine ∧ 0 ≤ k ∧ k < 2 ^ 62
          · rw [if_pos hz] at h
            obtain ⟨e2, ok2⟩ := putCell (Ca := Ca) (c' := .lst (xs.take k.toNat ++ [d] ++ xs.drop k.toNat)) (o := .lst (vs.take k.toNat ++ [v] ++ vs.drop k.toNat)) rl.ok hn em (by intro z; cases z) fun st =>
              ⟨_, upd_same, (((st.reps _ _ r1).take _).append (Reps.cons (st.rep _ _ hd) Reps.nil)).append ((st.reps _ _ r1).drop _)⟩
            exact ⟨a, vs, rfl, h1, by rw [← r1.length]; exact hz.1, hz.2.1, by omega, h G σ _ ((rl.step e2 ok2).drop fun p hp => by cases hp)⟩
          · rw [if_neg hz] at h; exact h.elim
        | _ => simp only [em] at h; exact h.elim
    | _ => exact False.elim h
theorem insM_int {Z : Ent} {μ : Sto} {ρ : Env} {Dn : Ends} {y : RV} {di d : D} (h : AtR X.K Ca W Z (insM ρ y di d μ) Dn) : ∃ k, di = .int k := by
  cases di with
  | int k => exact ⟨k, rfl⟩
  | _ => exact False.elim (by
      cases y with
      | v dd => cases dd <;> exact h
      | _ => exact h)
theorem ps_inss {apos cpos : Pos} (ho : PE X o (tE X.K Ca W C g O)) (he : PA X [i, e] (tAs X.K Ca W C g [I', E'])) (hbase : attributeBase o "insert" X.env (eval o X.env) = eval o X.env)
    (hfew : ((backTo cpos (starEach (i :: [e]) X.env)).all (fun x => !x.1) && (backToKw cpos (keywordEach [] X.env)).all (fun x => x.1.isSome) && decide ((i :: [e]).length + ([] : List Keyword).length + (if ([] : List Keyword).isEmpty then 0 else 1) < 30)) = true)
    (hline : (apos.endLine == cpos.line) = true) (hs : starEach (i :: [e]) X.env = (false, eval i X.env) :: starEach [e] X.env) (hpl : (backTo cpos (starEach [e] X.env)).any (·.1) = false) (hsw : swapsWith (.Call (.Attribute o "insert" apos) (i :: [e]) [] cpos) none pos.line X.env = pure false) :
    PS X (.Expr (.Call (.Attribute o "insert" apos) [i, e] [] cpos) pos) (tS X.K Ca W C g (.ins O I' E')) :=
  (ps_expr (pe_bm F.plainAttrs_list F.slot_list_insert F.type_list_insert mt_insert ho he hbase hfew hline hs hpl) hsw).weak fun Dn σ H ⟨Z, G, μ, ρ, hv, rl, h⟩ => by
    simp only [evalS] at h
    refine sE_then rl h fun y p G1 μ1 H1 _ rl1 v1 b1 h => ?_
    obtain ⟨h, hl⟩ := isLst_ok h
    refine ⟨ext_ty rl1 (rl1.hv _ List.mem_cons_self) b1 hl, ?_⟩
    refine sAs_then rl1 h fun ds ws G2 μ2 H2 _ rl2 rs h => ?_
    match ds, rs, h with
    | [di, d], rs, h =>
      obtain ⟨k, rfl⟩ := insM_int h
      simp only [Reps] at rs
      obtain ⟨w, _, rfl, hw, u, _, rfl, hu, rfl⟩ := rs
      simp only [Rep] at hw
      subst hw
      obtain ⟨a, vs, rfl, h1, h2, h3, h4, q⟩ := ins_core rl2 (rl2.hv _ List.mem_cons_self) hu h
      exact ⟨a, vs, k, u, rfl, rfl, h1, h2, h3, h4, q⟩
    | [], _, h => exact False.elim h
    | [_], _, h => exact False.elim h
    | d :: _ :: _ :: _, _, h => exact False.elim h
theorem ps_clrr {apos cpos : Pos} (ho : PE X o (tE X.K Ca W C g O)) (hbase : attributeBase o "clear" X.env (eval o X.env) = eval o X.env) (hline : (apos.endLine == cpos.line) = true)
    (hsw : swapsWith (.Call (.Attribute o "clear" apos) [] [] cpos) none pos.line X.env = pure false) :
    PS X (.Expr (.Call (.Attribute o "clear" apos) [] [] cpos) pos) (tS X.K Ca W C g (.clr O)) :=
  (ps_expr (pe_bm0 F.plainAttrs_list F.slot_list_clear F.type_list_clear (show MtR X "list.clear" rClear from mt_clear) ho hbase hline) hsw).weak fun Dn σ H ⟨Z, G, μ, ρ, hv, rl, h⟩ => by
    simp only [evalS] at h
    refine sE_then rl h fun y p G1 μ1 H1 _ rl1 v1 b1 h => ?_
    obtain ⟨h, hl⟩ := isLst_ok h
    refine ⟨ext_ty rl1 (rl1.hv _ List.mem_cons_self) b1 hl, ?_⟩
    obtain ⟨a, vs, rfl, h1, q⟩ := chg_core (fv := fun _ => []) (fun _ _ _ _ _ => Reps.nil) rl1 (rl1.hv _ List.mem_cons_self) h
    exact ⟨a, vs, rfl, rfl, h1, q⟩
theorem ps_rvss {apos cpos : Pos} (ho : PE X o (tE X.K Ca W C g O)) (hbase : attributeBase o "reverse" X.env (eval o X.env) = eval o X.env) (hline : (apos.endLine == cpos.line) = true)
    (hsw : swapsWith (.Call (.Attribute o "reverse" apos) [] [] cpos) none pos.line X.env = pure false) :
    PS X (.Expr (.Call (.Attribute o "reverse" apos) [] [] cpos) pos) (tS X.K Ca W C g (.rvs O)) :=
  (ps_expr (pe_bm0 F.plainAttrs_list F.slot_list_reverse F.type_list_reverse (show MtR X "list.reverse" rReverse from mt_reverse) ho hbase hline) hsw).weak fun Dn σ H ⟨Z, G, μ, ρ, hv, rl, h⟩ => by
    simp only [evalS] at h
    refine sE_then rl h fun y p G1 μ1 H1 _ rl1 v1 b1 h => ?_
    obtain ⟨h, hl⟩ := isLst_ok h
    refine ⟨ext_ty rl1 (rl1.hv _ List.mem_cons_self) b1 hl, ?_⟩
    obtain ⟨a, vs, rfl, h1, q⟩ := chg_core (fv := List.reverse) (fun _ _ _ _ r => r.reverse) rl1 (rl1.hv _ List.mem_cons_self) h
    exact ⟨a, vs, rfl, rfl, h1, q⟩
end
end J
/-! the text of a value; a cell against the empty list. -/
namespace J
open PySem L2 PySem.Spec PyProof.Rows
mutual
theorem noDict : ∀ d : PyData, d.canLay0 = true → d.hasDict = false
  | .none, _ => rfl
  | .bool _, _ => rfl
  | .int _, _ => rfl
  | .str _, _ => rfl
  | .list xs, h => by
    simp only [PyData.canLay0] at h
    simp only [PyData.hasDict]
    exact noDicts xs h
  | .tuple xs, h => by
    simp only [PyData.canLay0] at h
    simp only [PyData.hasDict]
    exact noDicts xs h
  | .dict _, h => by simp only [PyData.canLay0] at h; cases h
theorem noDicts : ∀ ds : List PyData, PyData.canLayAll0 ds = true → PyData.hasDictAll ds = false
  | [], _ => rfl
  | d :: r, h => by
    simp only [PyData.canLayAll0, Bool.and_eq_true] at h
    simp only [PyData.hasDictAll, noDict d h.1, noDicts r h.2, Bool.or_self]
end
section
variable {X : Cx} {Ca : Str → Addr} {W : WX} {C : Calls} {g : GT} {a b : Expr} {A B : E} {pos : Pos} {es : List Expr} {Es : List E} {k : Nat}
theorem repr_seq (gd : NoG X.A) (room : Room k X.A) {pins : List (Addr × Obj)} {s : Shared} {σ : St} {H : Hp} {p : Addr} {d : D} {Q : VK} (I : Inv X pins σ H s) (dp : Dp X.K H (.ref p) d.py) (hs : shp d = true) (sh : d.py.showable = true) (sz : d.py.shown.length ≤ sizeLine) (q : Q (.str d.py.shown) H) :
    wpAny (model X.prog X.w) X.A (call (.builtin "repr") [.ref p]) (EP X pins σ Q) X.xe s := by
  obtain ⟨as, r⟩ := Dp.reads I d.py (.ref p) (.ref p) dp rfl
  have lay := SeqAt.canLay_of_shaped hs
  have dep : d.py.depth ≤ 64 := by
    unfold shp SeqAt.shaped at hs
    rw [Bool.and_eq_true, decide_eq_true_eq] at hs
    exact hs.2
  have un := room.un
  exact repr_of_reads' r sh (fun z => by rw [noDict _ lay] at z; cases z) gd (by omega) (fun _ _ z => z) (fun h2 u tk kp => ⟨.str _, H, I.kept kp, ⟨u, rfl⟩, q⟩) sz
theorem repr_ok (gd : NoG X.A) (room : Room k X.A) : CallR X (.builtin "repr") (rCl X.K Ca W (bltM .repr)) := by
  intro pins s σ0 H xs us Q I r h
  obtain ⟨Z, G, μ, ρ, hv, σ, ds, rl, hds, q⟩ := h
  have ok := rl.ok
  have e : bltM .repr ds μ = oM (bltD .repr ds) μ := by
    unfold bltM
    split
    · cases ‹Blt.repr = _›
    · cases ‹Blt.repr = _›
    · cases ‹Blt.repr = _›
    · rfl
  have q : At X.K Ca W (RvR X.K ρ σ) σ G μ H (oM (bltD .repr ds)) Q := by
    unfold At at q ⊢
    rw [e] at q
    exact q
  obtain ⟨rv, eq, q⟩ := q.oM
  match ds, hds, eq with
  | [d], hds, eq =>
    obtain ⟨x, rfl, hd⟩ := hds.one
    obtain ⟨z, ez, rfl⟩ := Option.map_eq_some_iff.mp (show (reprD d).map (fun z => RV.v (.str z)) = some rv from eq)
    have q : Q (.str z) H := same_of ok q rStr
    obtain ⟨u, rfl, ru⟩ := r.one
    cases d with
    | int i =>
      rw [hd.int] at ru
      obtain ⟨t, rfl⟩ := ru
      rw [show reprD (.int i) = if i.natAbs.log2 < 1920 then some (Str.ofString (toString i)) else none from rfl] at ez
      split at ez
      · cases ez
        exact PySem.P.repr_of_int (by assumption) ⟨.str _, H, I.tok _, ⟨_, rfl⟩, q⟩
      · cases ez
    | str y =>
      rw [hd.str] at ru
      obtain ⟨t, rfl⟩ := ru
      rw [show reprD (.str y) = if (reprText y).length ≤ sizeLine then some (reprText y) else none from rfl] at ez
      split at ez
      · cases ez
        exact PySem.P.repr_of_str (hsz := by assumption) ⟨.str _, H, I.tok _, ⟨_, rfl⟩, q⟩
      · cases ez
    | tup ds =>
      rw [show reprD (.tup ds) = if shp (.tup ds) = true ∧ (D.tup ds).py.showable = true ∧ (D.tup ds).py.shown.length ≤ sizeLine then some (D.tup ds).py.shown else none from rfl] at ez
      split at ez
      · rename_i hc
        cases ez
        have dp := hd.dp rl.sl hc.1
        obtain ⟨p, vs, rfl, -, -⟩ := hd.tup
        cases ru
        exact repr_seq gd room I dp hc.1 hc.2.1 hc.2.2 q
      · cases ez
    | lst ds =>
      rw [show reprD (.lst ds) = if shp (.lst ds) = true ∧ (D.lst ds).py.showable = true ∧ (D.lst ds).py.shown.length ≤ sizeLine then some (D.lst ds).py.shown else none from rfl] at ez
      split at ez
      · rename_i hc
        cases ez
        have dp := hd.dp rl.sl hc.1
        obtain ⟨p, vs, rfl, -, -⟩ := hd.lst rl.sl
        cases ru
        exact repr_seq gd room I dp hc.1 hc.2.1 hc.2.2 q
      · cases ez
    | _ => cases ez
  | [], _, eq => cases eq
  | _ :: _ :: _, _, eq => cases eq
theorem pe_reprr {x : Str} {p : Pos} (gd : NoG X.A) (room : Room k X.A) (hg : Gl X x) (hm : X.mg x = none) (hv : bootBuiltins x = some (.builtin "repr")) (ha : PA X (a :: es) (tBs X.K Ca W C g Es)) (hn : x ≠ "__name__") (hdb : (x == ("__debug__" : Str)) = false)
    (he : starEach (a :: es) X.env = (false, eval a X.env) :: starEach es X.env) (hpl : (backTo pos (starEach es X.env)).any (·.1) = false) : PE X (.Call (.Name x p) (a :: es) [] pos) (tE X.K Ca W C g (.blt .repr Es)) :=
  (pe_callB (repr_ok (W := W) (Ca := Ca) gd room) hg hm hv ha hn hdb he hpl).weak fun σ H Q h => bs_call h
/-! ### a cell against [] -/
def rNil (K : PySem.W.Frag) (eq : Bool) : R2 := fun x y H Q => ∃ (p q : Addr) (ds : List PyData), x = .ref p ∧ y = .ref q ∧ Dp K H (.ref p) (.list ds) ∧ H q = some (.lst []) ∧ SeqAt.shaped (.list ds) = true ∧ Q (.bl (if eq then ds.isEmpty else !ds.isEmpty)) H
theorem nil_op (room : Room k X.A) (eq : Bool) : OpR X (compareOp (if eq then .Eq else .NotEq)) (rNil X.K eq) := by
  intro pins s σ H x y v u Q I rx ry h
  obtain ⟨p, q, ds, rfl, rfl, dp, hq, hs, qq⟩ := h
  have d2 : Dp X.K H (.ref q) (.list []) := .lst (.inl (.inl hq)) .nil
  cases eq with
  | true => exact op_eqD room.units pins s σ H _ _ v u Q I rx ry ⟨_, _, dp, d2, hs, rfl, by cases ds <;> exact qq⟩
  | false => exact op_neD room.units pins s σ H _ _ v u Q I rx ry ⟨_, _, dp, d2, hs, rfl, by cases ds <;> exact qq⟩
theorem nil_core {α β : Type} {R : Gh → Hp → Hp → α → β → Prop} {eq : Bool} {Z : Ent} {G : Gh} {μ : Sto} {ρ : Env} {hv : List (D × V)} {σ : St} {H : Hp} {d : D} {v : V} {k : RV → M α} {Q : β → Hp → Prop} (rl : Rl X.K Ca Z G μ ρ hv σ H) (hd : Hd X.K G H ρ σ d v) (h : At X.K Ca W R σ G μ H (M.bind (nilM eq d) k) Q) {q : Addr} (hq : H q = none) :
    ∃ (p : Addr) (ds : List PyData), v = .ref p ∧ Dp X.K (upd H q (.lst [])) (.ref p) (.list ds) ∧ SeqAt.shaped (.list ds) = true ∧ At X.K Ca W R σ G μ H (k (.v (.bl (if eq then ds.isEmpty else !ds.isEmpty)))) Q := by
  cases d with
  | ref n =>
    unfold At M.bind nilM at h
    cases em : μ[n]? with
    | none => simp only [em] at h
    | some c =>
      obtain ⟨a, rfl, hn, hc⟩ := rl.cellAt hd em
      cases c with
      | lst xs =>
        obtain ⟨vs, h1, r1⟩ := hc
        simp only [em] at h
        by_cases hs : shp (.lst xs) = true
        · rw [if_pos hs] at h
          have lay := SeqAt.canLay_of_shaped hs
          simp only [D.py, PyData.canLay0] at lay
          have hne : a ≠ q := fun z => by rw [z, hq] at h1; cases h1
          have st : Stay X.K G H G (upd H q (.lst [])) := ((Ext.fresh (o := .lst []) rl.ok hq).stay rl.ok)
          refine ⟨a, pys xs, rfl, .lst (.inl (.inl (by rw [upd_ne hne]; exact h1))) (Reps.dp xs vs (st.reps _ _ r1) lay), by unfold shp at hs; simpa only [D.py] using hs, ?_⟩
          have e : (pys xs).isEmpty = xs.isEmpty := by cases xs <;> rfl
          rw [e]
          exact h
        · rw [if_neg hs] at h; exact h.elim
      | _ => simp only [em] at h
  | _ => exact False.elim h
theorem nil_eq {eq : Bool} (ρ : Env) : evalT C g (.nilc eq A) ρ = M.bind (evalE C g A ρ) fun x => M.bind (nilM eq x.d) fun v => oM (truD v.d) := by
  unfold evalT
  simp only [evalE, M.bind_assoc]
theorem pe_nilcc {eq : Bool} {p2 : Pos} (room : Room k X.A) (ha : PE X a (tE X.K Ca W C g A)) : PE X (.Compare a [if eq then .Eq else .NotEq] [.List [] p2] pos) (tE X.K Ca W C g (.nilc eq A)) :=
  (pe_cmpR (nil_op room eq) ha (pe_lst pa_nil) (by cases eq <;> rfl)).weak fun σ H Q ⟨Z, G, μ, ρ, hv, rl, h⟩ => by
    simp only [evalE] at h
    refine tE_then RvR.mono rl h fun x v G1 μ1 H1 _ rl1 _ _ h => ?_
    refine ⟨Nat.zero_le _, fun q hq => ?_⟩
    rw [← M.bind_pure (nilM eq x.d)] at h
    obtain ⟨p, ds, rfl, d1, d2, h⟩ := nil_core rl1 (rl1.hv _ List.mem_cons_self) h hq
    have ef := Ext.fresh (o := .lst []) rl1.ok hq
    exact ⟨p, q, ds, rfl, rfl, d1, upd_same, d2, same_of (rl1.ok.fresh hq) (h.shift RvR.mono ef) rBl⟩
theorem pt_nilcc {eq : Bool} {p2 : Pos} (room : Room k X.A) (ha : PE X a (tE X.K Ca W C g A)) : PT X (.Compare a [if eq then .Eq else .NotEq] [.List [] p2] pos) (tT X.K Ca W C g (.nilc eq A)) :=
  (pt_cmpR (nil_op room eq) ha (pe_lst pa_nil) (by cases eq <;> rfl)).weak fun σ H Q ⟨Z, G, μ, ρ, hv, rl, h⟩ => by
    rw [nil_eq] at h
    refine tE_then RB.mono rl h fun x v G1 μ1 H1 _ rl1 _ _ h => ?_
    refine ⟨Nat.zero_le _, fun q hq => ?_⟩
    obtain ⟨p, ds, rfl, d1, d2, h⟩ := nil_core rl1 (rl1.hv _ List.mem_cons_self) h hq
    have ef := Ext.fresh (o := .lst []) rl1.ok hq
    refine ⟨p, q, ds, rfl, rfl, d1, upd_same, d2, _, rfl, ?_⟩
    exact h G1 _ _ ef (rl1.ok.fresh hq) rfl
end
end J
/-! what the text must be like: the small facts. -/
namespace J
open PySem L2 PySem.Spec PyProof.Rows
def notStar : Expr → Bool
  | .Starred _ _ => false | _ => true
def notSlice : Expr → Bool
  | .Slice _ _ _ _ => false | _ => true
def notSet : Expr → Bool
  | .Set _ _ _ => false | _ => true
def notComp : Expr → Bool
  | .ListComp _ _ _ _ => false | .SetComp _ _ _ _ => false | .DictComp _ _ _ _ _ => false | _ => true
def notName : Expr → Bool
  | .Name _ _ => false | _ => true
def notTup : Expr → Bool
  | .Tuple _ _ _ => false | .List _ _ => false | _ => true
/-- a value whose truth is asked after it has come -/
def truthy : Expr → Bool
  | .UnaryOp .Not _ _ => false | .BoolOp _ _ _ => false | .IfExp _ _ _ _ => false | .Compare _ _ _ _ => false | _ => true
def recv : Expr → Bool
  | .Call (.Name _ _) [] [] _ => false | _ => true
theorem star_cons {a : Expr} {es : List Expr} {env : PySem.Env} (h : notStar a = true) : starEach (a :: es) env = (false, eval a env) :: starEach es env := by
  cases a <;> first | rfl | cases h
theorem star_map {es : List Expr} {env : PySem.Env} (h : es.all notStar = true) : starEach es env = es.map fun e => (false, eval e env) := by
  induction es with
  | nil => rfl
  | cons a r ih =>
    rw [List.all_cons, Bool.and_eq_true] at h
    rw [star_cons h.1, ih h.2]; rfl
theorem back_any {es : List Expr} {env : PySem.Env} {pos : Pos} (h : es.all notStar = true) : (backTo pos (starEach es env)).any (·.1) = false := by
  rw [star_map h]
  unfold backTo
  simp
theorem back_all {es : List Expr} {env : PySem.Env} {pos : Pos} (h : es.all notStar = true) : (backTo pos (starEach es env)).all (fun x => !x.1) = true := by
  rw [star_map h]
  unfold backTo
  simp
theorem back_eq {es : List Expr} {env : PySem.Env} {pos : Pos} (h : es.all notStar = true) : backTo pos (starEach es env) = es.map fun e => (false, eval e env) := by
  rw [star_map h]
  unfold backTo
  simp
theorem few_of {es : List Expr} {env : PySem.Env} {pos : Pos} (h : es.all notStar = true) (hl : es.length < 30) :
    ((backTo pos (starEach es env)).all (fun x => !x.1) && (backToKw pos (keywordEach [] env)).all (fun x => x.1.isSome) && decide (es.length + ([] : List Keyword).length + (if ([] : List Keyword).isEmpty then 0 else 1) < 30)) = true := by
  rw [back_all h]
  simp [keywordEach, backToKw, hl]
theorem asg_cons {a : Expr} {es : List Expr} {env : PySem.Env} (h : notStar a = true) : assignEach (a :: es) env = (false, assign a env) :: assignEach es env := by
  cases a <;> first | rfl | cases h
theorem asg_map {es : List Expr} {env : PySem.Env} (h : es.all notStar = true) : assignEach es env = es.map fun e => (false, assign e env) := by
  induction es with
  | nil => rfl
  | cons a r ih =>
    rw [List.all_cons, Bool.and_eq_true] at h
    rw [asg_cons h.1, ih h.2]; rfl
theorem attr_of {o : Expr} {m : Str} {env : PySem.Env} (h : recv o = true) : attributeBase o m env (eval o env) = eval o env := by
  unfold attributeBase
  split
  · cases h
  · rfl
theorem fold_of {e : Expr} {env : PySem.Env} (h : notSet e = true) : ∀ x, foldedSetIterable e env x = pure x := fun x => by
  cases e <;> first | rfl | cases h
theorem marks_of {op : CmpOp} {e : Expr} (h : notSet e = true) : behindInMarks op e = false := by
  cases e <;> first | rfl | cases h
theorem plain_of {e : Expr} (h : notSlice e = true) : PlainIx e := fun o i => by
  cases e <;> first | rfl | cases h
theorem tru_of' {e : Expr} {env : PySem.Env} (h : truthy e = true) : ∀ whole, isTrue e env whole = (do let v ← whole; standAt e.pos; holding [v] (PySem.truthy v)) := fun whole => by
  unfold truthy at h
  split at h <;> first | cases h | skip
  rename_i h1 h2 h3 h4
  cases e with
  | UnaryOp op x p => cases op <;> first | rfl | exact absurd rfl (h1 _ _)
  | BoolOp op x p => exact absurd rfl (h2 _ _ _)
  | IfExp a b c p => exact absurd rfl (h3 _ _ _ _)
  | Compare a b c p => exact absurd rfl (h4 _ _ _ _)
  | _ => rfl
theorem sw_notComp {e : Expr} {t : Option Expr} {l : Nat} {env : PySem.Env} (h : notComp e = true) : swapsWith e t l env = pure false := by
  cases e <;> first | rfl | cases h
theorem sw_notName {e t : Expr} {l : Nat} {env : PySem.Env} (h : notName t = true) : swapsWith e (some t) l env = pure false := by
  cases e <;> first | rfl | (cases t <;> first | rfl | cases h)
theorem swS_notTup {t e : Expr} {env : PySem.Env} (h : notTup t = true) : swappedStores [t] e env = pure none := by
  cases t <;> first | rfl | cases h
theorem swS_noTup {t e : Expr} {env : PySem.Env} (h : notTup e = true) : swappedStores [t] e env = pure none := by
  cases t <;> first | rfl | (cases e <;> first | rfl | cases h)
/-- which names a display's stores swap -/
def blkK (sc : Scope) : ScopeKind := if sc.kind.isAnnotationScope then .function else sc.kind
def swNames (sc : Scope) (ts : List Expr) : List Str := ts.filterMap fun
  | .Name id pos => if sc.names.lookup id == some .local && pos.line == (ts.head?.map (·.pos.line)).getD 0 then some id else none
  | _ => none
/-- none: not told -/
def swB (sc : Scope) (ts vs : List Expr) : Option (Option (List Str)) :=
  if !(ts.length == 2 || ts.length == 3) || vs.length != ts.length || blkK sc != .function then some none
  else if vs.any fun | .Starred .. => true | _ => false then some none
  else if (swNames sc ts).length != ts.length || (swNames sc ts).eraseDups.length != (swNames sc ts).length then some none
  else if vs.all (foldedForSure 8) then some none
  else if vs.all (constantsAlone 8) then none
  else some (some (swNames sc ts))
theorem swB_ok {sc : Scope} {ts vs : List Expr} {k k2 : Nat} {p p2 : Pos} {env : PySem.Env} {r : Option (List Str)} (he : env.scope = sc) (h : swB sc ts vs = some r) : swappedStores [.Tuple ts k p] (.Tuple vs k2 p2) env = pure r := by
  subst he
  unfold swB at h
  unfold swappedStores
  simp only [pure_bind]
  have e1 : env.blockKind = blkK env.scope := rfl
  have e2 : (ts.filterMap fun
    | .Name id pos => if env.kindOf id == some .local && pos.line == (ts.head?.map (·.pos.line)).getD 0 then some id else none
    | _ => none) = swNames env.scope ts := rfl
  rw [e1]
  split at h
  · rename_i c; cases h; rw [if_pos c]
  · rename_i c
    rw [if_neg c]
    split at h
    · rename_i c2; cases h; exact if_pos c2
    · rename_i c2
      refine (if_neg c2).trans ?_
      split at h
      · rename_i c3; cases h; exact if_pos c3
      · rename_i c3
        refine (if_neg c3).trans ?_
        split at h
        · rename_i c4; cases h; exact if_pos c4
        · rename_i c4
          refine (if_neg c4).trans ?_
          split at h
          · cases h
          · rename_i c5
            cases h
            exact if_neg c5
end J
/-! the text against the small language, by a Bool. -/
namespace J
open PySem L2 PySem.Spec PyProof.Rows
structure Ct where
  N : List Str
  sc : Scope
  fn : Str → Bool
  fns : List (Str × Nat)
  csts : List (Str × Nat)
  blts : List Str
inductive Jd where
  | e (x : Expr) (A : E)
  | t (x : Expr) (A : E)
  | w (x : Expr) (A : E)
  | as (xs : List Expr) (As : List E)
  | bs (xs : List Expr) (As : List E)
  | o (x : Option Expr) (A : Option E)
  | i (tg it : Expr) (A : E)
  | g (x : Expr) (t : T)
  | gs (xs : List Expr) (ts : List T)
  | c (xs : List Expr) (A : Option E)
  | pr (ks : List (Option Expr)) (xs : List Expr) (Ks : List Key) (As : List E)
  | s (x : Stmt) (s : S)
  | ss (xs : List Stmt) (s : List S)
def visB (sc : Scope) (x : Str) : Bool := decide (sc.names.lookup x = some .local) || decide (sc.names.lookup x = some .cell) || decide (sc.names.lookup x = some .free)
def locB (c : Ct) (x : Str) : Bool := (decide (c.sc.names.lookup x = some .local) || (decide (c.sc.names.lookup x = some .cell) && c.fn x))
def glB (sc : Scope) (x : Str) : Bool := decide (sc.names.lookup x = some .globalImplicit)
def plainN (x : Str) : Bool := !(x == ("__debug__" : Str)) && !(x == ("__classdict__" : Str))
def bltB (c : Ct) (x : Str) : Bool := glB c.sc x && decide (x ∈ c.blts)
def relS (scope sc : Scope) : Scope := { scope with names := scope.names.map fun (n, k) => if (k == .free && sc.kind == .function && sc.names.lookup n == some .cell) then (n, .cell) else (n, k) }
def Ct.blk (c : Ct) (scope : Scope) : Ct := { c with sc := relS scope c.sc, fn := fun x => scope.names.lookup x == some .cell }
def Blt.nm : Blt → Str
  | .len => "len" | .max2 => "max" | .min2 => "min" | .maxL => "max" | .minL => "min" | .sum => "sum" | .abs => "abs" | .int => "int" | .str => "str" | .list => "list" | .tuple => "tuple" | .all => "all" | .any => "any"
  | .isBool => "bool" | .isInt => "int" | .isStr => "str" | .isTuple => "tuple" | .isList => "list" | .isLT => "list" | .repr => "repr"
def Mth.nm : Mth → Str
  | .join => "join" | .split => "split" | .index => "index" | .sindex => "index" | .get => "get" | .pop => "pop" | .popAt => "pop" | .tindex => "index"
section
variable (r : Ct → Jd → Bool) (c : Ct)
def litB : Expr → Lit → Bool
  | .Constant .none _ _, .non => true
  | .Constant (.bool b) _ _, .bl b' => b == b'
  | .Constant (.int i) _ _, .int j => decide (i = j)
  | .Constant (.str x) _ _, .str y => decide (x = y)
  | _, _ => false
def ownB (own : List Nat) : List (Str × Nat) := own.map fun i => ((c.N[i]?).getD ⟨#[]⟩, i)
def compB (x : Expr) (own : List Nat) (t : T) (it : E) (co : Option E) (e : E) : Bool := match x with
  | .ListComp elt [⟨tg, iter, ifs, 0⟩] scope _ => blkC c.N c.sc scope (ownB c own) && r c (.i tg iter it) && r (c.blk scope) (.g tg t) && r (c.blk scope) (.c ifs co) && r (c.blk scope) (.e elt e) && notSet iter && (t.sl.all fun i => decide (i ∈ own))
  | _ => false
/-- f(x, ..) with a plain name, no words -/
def callB (x : Expr) : Option (Str × List Expr) := match x with
  | .Call (.Name f _) es [] _ => if es.all notStar then some (f, es) else none
  | _ => none
def bltOk (x : Expr) (b : Blt) (Es : List E) : Bool := match callB x with
  | some (f, es) => if b = .isLT then (match es, Es with
      | [a, .Tuple [.Name y1 _, .Name y2 _] _ _], [A] => bltB c f && decide (f = ("isinstance" : Str)) && bltB c y1 && decide (y1 = ("list" : Str)) && bltB c y2 && decide (y2 = ("tuple" : Str)) && r c (.e a A)
      | _, _ => false)
    else if b = .repr then bltB c f && decide (f = ("repr" : Str)) && !es.isEmpty && r c (.bs es Es)
    else if (isD b).isSome then (match es, Es with
      | [a, .Name y _], [A] => bltB c f && decide (f = ("isinstance" : Str)) && bltB c y && decide (y = b.nm) && r c (.e a A)
      | _, _ => false)
    else bltB c f && decide (f = b.nm) && !es.isEmpty && r c (.bs es Es)
  | none => false
def methOk (x : Expr) (m : Mth) (O : E) (Es : List E) : Bool := match x with
  | .Call (.Attribute o nm apos) es [] pos => decide (nm = m.nm) && recv o && (apos.endLine == pos.line) && r c (.e o O) && es.all notStar && (match m, es, Es with
    | .join, [a], [A] => r c (.e a A)
    | .split, [a], [A] => r c (.e a A)
    | .sindex, [a], [A] => r c (.e a A)
    | .pop, [], [] => true
    | .popAt, [a], [A] => r c (.bs [a] [A])
    | .get, [a, b], [A, B] => r c (.e a A) && r c (.e b B)
    | _, _, _ => false)
  | _ => false
def revB (x : Expr) (A : E) : Bool := match x with
  | .Subscript a (.Slice none none (some (.UnaryOp .USub (.Constant (.int i) _ _) _)) _) _ => decide (i = 1) && r c (.e a A)
  | .Call (.Name f _) [.Call (.Name f2 _) [a] [] _] [] _ => bltB c f && decide (f = ("list" : Str)) && bltB c f2 && decide (f2 = ("reversed" : Str)) && notStar a && r c (.e a A)
  | _ => false
def loB (cut : Bool) (lo : Option Expr) : Bool := match cut, lo with
  | false, none => true
  | true, some (.UnaryOp .USub (.Constant (.int j) _ _) _) => decide (j = 2)
  | _, _ => false
def revtB (x : Expr) (cut : Bool) (A : E) : Bool := match x with
  | .Subscript a (.Slice lo none (some (.UnaryOp .USub (.Constant (.int i) _ _) _)) _) _ => decide (i = 1) && loB cut lo && r c (.e a A)
  | _ => false
def nilB (x : Expr) (eq : Bool) (A : E) : Bool := match x with
  | .Compare a [op] [.List [] _] _ => decide (op = if eq then .Eq else .NotEq) && r c (.e a A)
  | _ => false
def chkE (x : Expr) (A : E) : Bool := match A with
  | .lit l => litB x l
  | .var i => (match x with
    | .Name n _ => decide (c.N[i]? = some n) && visB c.sc n && plainN n
    | _ => false)
  | .glob k => (match x with
    | .Name n _ => glB c.sc n && plainN n && decide (c.csts.lookup n = some k)
    | _ => false)
  | .bin o A B => (match x with
    | .BinOp a op b _ => decide (op = o.op) && r c (.e a A) && r c (.e b B)
    | _ => false)
  | .neg A => (match x with
    | .UnaryOp .USub a _ => r c (.e a A)
    | _ => false)
  | .not A => (match x with
    | .UnaryOp .Not a _ => r c (.e a A)
    | _ => false)
  | .cmp o A B => (match x with
    | .Compare a [op] [b] _ => decide (op = o.op) && notSet b && r c (.e a A) && r c (.e b B)
    | _ => false)
  | .chain o p A B B2 => (match x with
    | .Compare a [op, op2] [b, b2] _ => decide (op = o.op) && decide (op2 = p.op) && notSet b2 && r c (.e a A) && r c (.e b B) && r c (.e b2 B2)
    | _ => false)
  | .and A B => (match x with
    | .BoolOp .And [a, b] _ => r c (.e a A) && r c (.e b B)
    | .BoolOp .And (a :: b :: rest) pos => r c (.e a A) && r c (.e (.BoolOp .And (b :: rest) pos) B)
    | _ => false)
  | .or A B => (match x with
    | .BoolOp .Or [a, b] _ => r c (.e a A) && r c (.e b B)
    | .BoolOp .Or (a :: b :: rest) pos => r c (.e a A) && r c (.e (.BoolOp .Or (b :: rest) pos) B)
    | _ => false)
  | .ite C A B => (match x with
    | .IfExp t a b _ => r c (.t t C) && r c (.e a A) && r c (.e b B)
    | _ => false)
  | .tup Es => (match x with
    | .Tuple es _ _ => r c (.as es Es)
    | _ => false)
  | .lst Es => (match x with
    | .List es _ => r c (.as es Es)
    | _ => false)
  | .cell A => r c (.e x A)
  | .dct ks Es => (match x with
    | .Dict [] [] _ => ks.isEmpty && Es.isEmpty
    | .Dict keys vals _ => r c (.pr keys vals ks Es) && keys.all (·.isSome) && decide (keys.length = vals.length) && !keys.isEmpty && decide (keys.length ≤ 15) && decide (ks.length = Es.length)
    | _ => false)
  | .idx A B => (match x with
    | .Subscript a b _ => notSlice b && r c (.e a A) && r c (.e b B)
    | _ => false)
  | .slc A Lo Hi => (match x with
    | .Subscript a (.Slice lo hi none _) _ => r c (.e a A) && r c (.o lo Lo) && r c (.o hi Hi)
    | _ => false)
  | .rev A => revB r c x A
  | .revt cut A => revtB r c x cut A
  | .nilc eq A => nilB r c x eq A
  | .comp own t it co e => compB r c x own t it co e
  | .call f Es => (match callB x with
    | some (n, es) => glB c.sc n && plainN n && decide (c.fns.lookup n = some f) && r c (.as es Es) && (es.isEmpty == Es.isEmpty)
    | none => false)
  | .blt b Es => bltOk r c x b Es
  | .meth m O Es => methOk r c x m O Es
  | .irng _ => false
  | .irng2 _ _ => false
  | .ienum _ => false
  | .izip _ _ => false
  | .izip3 _ _ _ => false
  | .irev _ => false
def chkT (x : Expr) (A : E) : Bool := match x with
  | .Compare a [op] [b] _ => (match A with
    | .cmp o A B => decide (op = o.op) && notSet b && r c (.e a A) && r c (.e b B)
    | .nilc eq A => nilB r c x eq A
    | _ => false)
  | .Compare a [op, op2] [b, b2] _ => (match A with
    | .chain o p A B B2 => decide (op = o.op) && decide (op2 = p.op) && notSet b2 && r c (.e a A) && r c (.e b B) && r c (.e b2 B2)
    | _ => false)
  | .UnaryOp .Not a _ => (match A with
    | .not A => r c (.t a A)
    | _ => false)
  | .BoolOp op xs pos => r c (.w (.BoolOp op xs pos) A)
  | x => truthy x && r c (.e x A)
def chkW (x : Expr) (A : E) : Bool := match x with
  | .BoolOp _ [a] _ => r c (.t a A)
  | .BoolOp .And (a :: b :: rest) pos => (match A with
    | .and A B => r c (.t a A) && r c (.w (.BoolOp .And (b :: rest) pos) B)
    | _ => false)
  | .BoolOp .Or (a :: b :: rest) pos => (match A with
    | .or A B => r c (.t a A) && r c (.w (.BoolOp .Or (b :: rest) pos) B)
    | _ => false)
  | _ => false
def chkAs (xs : List Expr) (As : List E) : Bool := match xs, As with
  | [], [] => true
  | x :: xs, A :: As => notStar x && r c (.e x A) && r c (.as xs As)
  | _, _ => false
def chkBs (xs : List Expr) (As : List E) : Bool := match xs, As with
  | [], [] => true
  | x :: xs, A :: As => notStar x && r c (.e x A) && r c (.bs xs As)
  | _, _ => false
def chkO (x : Option Expr) (A : Option E) : Bool := match x, A with
  | none, none => true
  | some x, some A => r c (.e x A)
  | _, _ => false
def isTupX : Expr → Bool
  | .Tuple _ _ _ => true | _ => false
def chkI (tg x : Expr) (A : E) : Bool := match A with
  | .irng A => (match x with
    | .Call (.Name f _) [a] [] _ => bltB c f && decide (f = ("range" : Str)) && notStar a && r c (.bs [a] [A])
    | _ => false)
  | .ienum A => (match x with
    | .Call (.Name f _) [a] [] _ => isTupX tg && bltB c f && decide (f = ("enumerate" : Str)) && notStar a && r c (.as [a] [A])
    | _ => false)
  | .izip A B => (match x with
    | .Call (.Name f _) [a, b] [] _ => isTupX tg && bltB c f && decide (f = ("zip" : Str)) && notStar a && notStar b && r c (.as [a, b] [A, B])
    | _ => false)
  | .irev A => (match x with
    | .Call (.Name f _) [a] [] _ => bltB c f && decide (f = ("reversed" : Str)) && notStar a && r c (.e a A)
    | _ => false)
  | A => r c (.e x A)
def chkG (x : Expr) (t : T) : Bool := match t with
  | .nm i => (match x with
    | .Name n _ => decide (c.N[i]? = some n) && locB c n
    | _ => false)
  | .tp ts => (match x with
    | .Tuple es _ _ => es.all notStar && decide (es.length = ts.length) && r c (.gs es ts)
    | _ => false)
def chkGs (xs : List Expr) (ts : List T) : Bool := match xs, ts with
  | [], [] => true
  | x :: xs, t :: ts => notStar x && r c (.g x t) && r c (.gs xs ts)
  | _, _ => false
def chkC (xs : List Expr) (A : Option E) : Bool := match xs, A with
  | [], none => true
  | [x], some A => r c (.t x A)
  | _, _ => false
def keyB : Key → Option Expr → Bool
  | .inl i, some (.Constant (.int j) _ _) => decide (i = j)
  | .inr x, some (.Constant (.str y) _ _) => decide (x = y)
  | _, _ => false
def chkPr (ks : List (Option Expr)) (xs : List Expr) (Ks : List Key) (As : List E) : Bool := match ks, xs, Ks, As with
  | [], [], [], [] => true
  | k :: ks, x :: xs, K :: Ks, A :: As => keyB K k && r c (.e x A) && r c (.pr ks xs Ks As)
  | _, _, _, _ => false
/-! statements -/
def swC (sc : Scope) (x : Str) (l : Nat) (e : Expr) : Bool := match e with
  | .ListComp _ _ s pos => blkK sc == .function && sc.names.lookup x == some .local && l == pos.line && !(s.names.any fun (n, k) => n == x && (k == .local || k == .cell))
  | _ => false
/-- a value that goes to a name -/
def nameB (x : Str) (l : Nat) (e : Expr) (A : E) : Bool :=
  if swC c.sc x l e then (match A with
    | .comp own t it co e2 => compB r c e own t it co e2
    | .cell (.comp own t it co e2) => compB r c e own t it co e2
    | _ => false)
  else (notComp e || (match e with | .ListComp _ _ _ _ => true | _ => false)) && r c (.e e A)
def tupNames (sc : Scope) (ts : List Expr) : List Str := swNames sc ts
def parB (ts vs : List Expr) (is : List Nat) (As : List E) : Bool :=
  decide (swB c.sc ts vs = some (some (is.map fun i => (c.N[i]?).getD ⟨#[]⟩))) && r c (.as vs As) && decide (is.Nodup)
def chkS (x : Stmt) (s : S) : Bool := match s with
  | .asg (.nm i) A => (match x with
    | .Assign [.Name n p] e _ => decide (c.N[i]? = some n) && locB c n && nameB r c n p.line e A
    | _ => false)
  | .asg (.tp ts) A => (match x with
    | .Assign [.Tuple es k p] e _ => r c (.e e A) && r c (.g (.Tuple es k p) (.tp ts)) && (notTup e || (match e with
        | .Tuple vs _ _ => decide (swB c.sc es vs = some none)
        | _ => false))
    | _ => false)
  | .own i A => (match x with
    | .Assign [.Name n p] e _ => decide (c.N[i]? = some n) && locB c n && nameB r c n p.line e A
    | _ => false)
  | .par2 i j A B => (match x with
    | .Assign [.Tuple [.Name n p, .Name n2 p2] k q] (.Tuple [a, b] k2 q2) _ => decide (c.N[i]? = some n) && decide (c.N[j]? = some n2) && decide (c.sc.names.lookup n = some .local) && decide (c.sc.names.lookup n2 = some .local) &&
        decide (swB c.sc [.Name n p, .Name n2 p2] [a, b] = some (some [n, n2])) && r c (.as [a, b] [A, B]) && decide (i ≠ j)
    | _ => false)
  | .par3 i j l A B C => (match x with
    | .Assign [.Tuple [.Name n p, .Name n2 p2, .Name n3 p3] k q] (.Tuple [a, b, d] k2 q2) _ => decide (c.N[i]? = some n) && decide (c.N[j]? = some n2) && decide (c.N[l]? = some n3) && decide (c.sc.names.lookup n = some .local) && decide (c.sc.names.lookup n2 = some .local) &&
        decide (c.sc.names.lookup n3 = some .local) && decide (swB c.sc [.Name n p, .Name n2 p2, .Name n3 p3] [a, b, d] = some (some [n, n2, n3])) && r c (.as [a, b, d] [A, B, C]) && decide (i ≠ j) && decide (i ≠ l) && decide (j ≠ l)
    | _ => false)
  | .share _ => false
  | .put O I' E' => (match x with
    | .Assign [.Subscript o i _] e _ => notSlice i && r c (.e o O) && r c (.e i I') && r c (.e e E')
    | _ => false)
  | .app O E' => (match x with
    | .Expr (.Call (.Attribute o m apos) [a] [] pos) _ => decide (m = ("append" : Str)) && recv o && (apos.endLine == pos.line) && notStar a && r c (.e o O) && r c (.as [a] [E'])
    | _ => false)
  | .ext O E' => (match x with
    | .Expr (.Call (.Attribute o m apos) [a] [] pos) _ => decide (m = ("extend" : Str)) && recv o && (apos.endLine == pos.line) && notStar a && r c (.e o O) && r c (.as [a] [E'])
    | _ => false)
  | .ret A => (match x with
    | .Return (some e) _ => r c (.e e A)
    | _ => false)
  | .ifs A As Bs => (match x with
    | .If t a b _ => r c (.t t A) && r c (.ss a As) && r c (.ss b Bs)
    | _ => false)
  | .fors t it Bs => (match x with
    | .For tg iter b [] _ => r c (.i tg iter it) && r c (.g tg t) && r c (.ss b Bs) && notSet iter
    | _ => false)
  | .whl A Bs => (match x with
    | .While t b [] _ => r c (.t t A) && r c (.ss b Bs)
    | _ => false)
  | .expr A => (match x with
    | .Expr e _ => notComp e && r c (.e e A)
    | _ => false)
  | .pass => (match x with
    | .Pass _ => true
    | _ => false)
  | .cont => (match x with
    | .Continue _ => true
    | _ => false)
  | .ins O I' E' => (match x with
    | .Expr (.Call (.Attribute o m apos) [a, b] [] pos) _ => decide (m = ("insert" : Str)) && recv o && (apos.endLine == pos.line) && notStar a && notStar b && r c (.e o O) && r c (.as [a, b] [I', E'])
    | _ => false)
  | .clr O => (match x with
    | .Expr (.Call (.Attribute o m apos) [] [] pos) _ => decide (m = ("clear" : Str)) && recv o && (apos.endLine == pos.line) && r c (.e o O)
    | _ => false)
  | .rvs O => (match x with
    | .Expr (.Call (.Attribute o m apos) [] [] pos) _ => decide (m = ("reverse" : Str)) && recv o && (apos.endLine == pos.line) && r c (.e o O)
    | _ => false)
  | .aug _ _ _ => false
def chkSs (xs : List Stmt) (s : List S) : Bool := match s with
  | [] => xs.isEmpty
  | .share _ :: ss => r c (.ss xs ss)
  | s :: ss => (match xs with
    | x :: xs => r c (.s x s) && r c (.ss xs ss)
    | [] => false)
def chkJ : Jd → Bool
  | .e x A => chkE r c x A
  | .t x A => chkT r c x A
  | .w x A => chkW r c x A
  | .as xs As => chkAs r c xs As
  | .bs xs As => chkBs r c xs As
  | .o x A => chkO r c x A
  | .i tg x A => chkI r c tg x A
  | .g x t => chkG r c x t
  | .gs xs ts => chkGs r c xs ts
  | .c xs A => chkC r c xs A
  | .pr ks xs Ks As => chkPr r c ks xs Ks As
  | .s x s => chkS r c x s
  | .ss xs s => chkSs r c xs s
end
def chk : Nat → Ct → Jd → Bool
  | 0 => fun _ _ => false
  | n + 1 => fun c j => chkJ (chk n) c j
end J
/-! the checker is sound (expressions). -/
namespace J
open PySem L2 PySem.Spec PyProof.Rows
structure CtOk (k : Nat) (Ca : Str → Addr) (C : Calls) (g : GT) (X : Cx) (W : WX) (c : Ct) : Prop where
  N : X.N = c.N
  nd : c.N.Nodup
  sc : X.env.scope = c.sc
  fn : ∀ x, c.fn x = true → X.fn x = true
  calm : X.calm = true
  room : Room k X.A
  gd : NoG X.A
  tk : Takes X W
  fns : ∀ x f, c.fns.lookup x = some f → ∃ fa fd ps, FnG X.prog X.w X.K X.mg X.base (L2.CX X.prog X.w) k fa fd ps (spI X.K Ca (C f)) ∧ X.mg x = some (.ref fa) ∧ PySem.W.keepIn X.K (.ref fa) = true ∧ Binds X.K fd ps []
  csts : ∀ x n, c.csts.lookup x = some n → ∃ u v d, X.mg x = some u ∧ RelV v u ∧ atT g n = some d ∧ ∀ G H, Rep X.K G H d v
  blts : ∀ x ∈ c.blts, X.mg x = none
def Snd (Ca : Str → Addr) (C : Calls) (g : GT) (X : Cx) (W : WX) : Jd → Prop
  | .e x A => PE X x (tE X.K Ca W C g A)
  | .t x A => PT X x (tT X.K Ca W C g A)
  | .w x A => PW X x (tT X.K Ca W C g A)
  | .as xs As => PA X xs (tAs X.K Ca W C g As)
  | .bs xs As => PA X xs (tBs X.K Ca W C g As)
  | .o x A => PO X x (tO X.K Ca W C g A)
  | .i tg it A => PI X tg it (tI X.K Ca W C g A)
  | .g x t => PG X x (gT X.K Ca t)
  | .gs xs ts => PGs X xs (gTs X.K Ca ts)
  | .c xs A => PTs X xs (tC' X.K Ca W C g A)
  | .pr ks xs Ks As => ∀ pos, PrOk X pos ks xs (tPr X.K Ca W C g Ks As)
  | .s x s => PassesOwn (model X.prog X.w) X.A X.env X.xe → PS X x (tS X.K Ca W C g s)
  | .ss xs ss => PassesOwn (model X.prog X.w) X.A X.env X.xe → PSs X xs (tSs X.K Ca W C g ss)
section
variable {k : Nat} {Ca : Str → Addr} {C : Calls} {g : GT} {r : Ct → Jd → Bool} {c : Ct} {X : Cx} {W : WX}
theorem CtOk.blk (o : CtOk k Ca C g X W c) (s : Shared) (H : Hp) (scope : Scope) (D : Addr) (cl : List (Str × Addr)) (fp : List Addr) : CtOk k Ca C g (X.blk s H scope (compEnvC scope cl D X.env) fp) W0 (c.blk scope) where
  N := o.N
  nd := o.nd
  sc := by
    show relabel scope X.env = relS scope c.sc
    rw [← o.sc]; rfl
  fn := fun x h => h
  calm := o.calm
  room := o.room
  gd := o.gd
  tk := takes0
  fns := o.fns
  csts := o.csts
  blts := o.blts
theorem vis_of {sc : Scope} {x : Str} (h : visB sc x = true) : Vis sc x := by
  unfold visB at h
  simp only [Bool.or_eq_true, decide_eq_true_eq] at h
  rcases h with (h | h) | h
  · exact .inl h
  · exact .inr (.inl h)
  · exact .inr (.inr h)
theorem plainN_of {x : Str} (h : plainN x = true) : (x == ("__debug__" : Str)) = false ∧ (x == ("__classdict__" : Str)) = false := by
  unfold plainN at h
  simpa using h
theorem gl_of (o : CtOk k Ca C g X W c) {x : Str} (h : glB c.sc x = true) : Gl X x := by
  show X.env.scope.names.lookup x = _
  rw [o.sc]
  simpa [glB] using h
theorem blt_of (o : CtOk k Ca C g X W c) {x : Str} (h : bltB c x = true) : Gl X x ∧ X.mg x = none := by
  unfold bltB at h
  rw [Bool.and_eq_true, decide_eq_true_eq] at h
  exact ⟨gl_of o h.1, o.blts x h.2⟩
theorem boot_id {b : Blt} {i : String} (h : b.id? = some i) : bootBuiltins b.nm = some (.builtin i) ∧ b.nm ≠ "__name__" ∧ (b.nm == ("__debug__" : Str)) = false := by
  cases b <;> cases h <;> exact ⟨by decide +kernel, by decide +kernel, by decide +kernel⟩
theorem boot_ty {b : Blt} {i : String} (h : b.ty? = some i) : bootBuiltins b.nm = some (.type i) ∧ b.nm ≠ "__name__" ∧ (b.nm == ("__debug__" : Str)) = false := by
  cases b <;> cases h <;> exact ⟨by decide +kernel, by decide +kernel, by decide +kernel⟩
theorem boot_is {b : Blt} {t : String} {f : D → Bool} (h : isD b = some (t, f)) : bootBuiltins b.nm = some (.type t) ∧ b.nm ≠ "__name__" ∧ (b.nm == ("__debug__" : Str)) = false := by
  cases b <;> cases h <;> exact ⟨by decide +kernel, by decide +kernel, by decide +kernel⟩
theorem one_of (b : Blt) : (∃ i, b.id? = some i) ∨ (∃ i, b.ty? = some i) ∨ (isD b).isSome = true ∨ b = .isLT ∨ b = .repr := by
  cases b <;> first | exact .inl ⟨_, rfl⟩ | exact .inr (.inl ⟨_, rfl⟩) | exact .inr (.inr (.inl rfl)) | exact .inr (.inr (.inr (.inl rfl))) | exact .inr (.inr (.inr (.inr rfl)))
section
variable (ih : ∀ c j, r c j = true → ∀ X W, CtOk k Ca C g X W c → Snd Ca C g X W j) (o : CtOk k Ca C g X W c)
include ih o
theorem comp_ok {x : Expr} {own : List Nat} {t : T} {it : E} {co : Option E} {e : E} (h : compB r c x own t it co e = true) : ∃ elt tg iter ifs scope pos, x = .ListComp elt [⟨tg, iter, ifs, 0⟩] scope pos ∧ BlkOk X.N X.env.scope scope (ownB c own) ∧ (ownB c own).map (·.2) = own ∧
    PI X tg iter (tI X.K Ca W C g it) ∧
    (∀ (s : Shared) (H : Hp) (D : Addr) (cl : List (Str × Addr)) (fp : List Addr), PG (X.blk s H scope (compEnvC scope cl D X.env) fp) tg (gT X.K Ca t)) ∧
    (∀ (s : Shared) (H : Hp) (D : Addr) (cl : List (Str × Addr)) (fp : List Addr), PTs (X.blk s H scope (compEnvC scope cl D X.env) fp) ifs (tC' X.K Ca W0 C g co)) ∧
    (∀ (s : Shared) (H : Hp) (D : Addr) (cl : List (Str × Addr)) (fp : List Addr), PE (X.blk s H scope (compEnvC scope cl D X.env) fp) elt (tE X.K Ca W0 C g e)) ∧ notSet iter = true ∧ ∀ i ∈ t.sl, i ∈ (ownB c own).map (·.2) := by
  unfold compB at h
  split at h
  · rename_i elt tg iter ifs scope pos
    simp only [Bool.and_eq_true, List.all_eq_true, decide_eq_true_eq] at h
    obtain ⟨⟨⟨⟨⟨⟨h1, h2⟩, h3⟩, h4⟩, h5⟩, h6⟩, h7⟩ := h
    have e1 : (ownB c own).map (·.2) = own := by
      unfold ownB
      rw [List.map_map]
      exact List.map_id' own
    refine ⟨elt, tg, iter, ifs, scope, pos, rfl, by rw [o.N, o.sc]; exact blkOk_by h1, e1, ih _ _ h2 X W o, fun s H D cl fp => ih _ _ h3 _ _ (o.blk s H scope D cl fp), fun s H D cl fp => ih _ _ h4 _ _ (o.blk s H scope D cl fp), fun s H D cl fp => ih _ _ h5 _ _ (o.blk s H scope D cl fp), h6, by rw [e1]; exact h7⟩
  · cases h
theorem callB_ok {x : Expr} {f : Str} {es : List Expr} (h : callB x = some (f, es)) : ∃ p pos, x = .Call (.Name f p) es [] pos ∧ es.all notStar = true := by
  unfold callB at h
  split at h
  · split at h
    · rename_i hs; cases h; exact ⟨_, _, rfl, hs⟩
    · cases h
  · cases h
theorem bltOk_ok {x : Expr} {b : Blt} {Es : List E} (h : bltOk r c x b Es = true) : PE X x (tE X.K Ca W C g (.blt b Es)) := by
  unfold bltOk at h
  cases e : callB x with
  | none => rw [e] at h; cases h
  | some p =>
    obtain ⟨f, es⟩ := p
    rw [e] at h
    obtain ⟨p, pos, rfl, hs⟩ := callB_ok ih o e
    simp only at h
    by_cases hlt : b = .isLT
    · subst hlt
      rw [if_pos rfl] at h
      split at h
      · rename_i a y1 p1 y2 p2 k3 p3 A
        simp only [Bool.and_eq_true, decide_eq_true_eq] at h
        obtain ⟨⟨⟨⟨⟨⟨h1, rfl⟩, h2⟩, rfl⟩, h4⟩, rfl⟩, h3⟩ := h
        obtain ⟨g1, m1⟩ := blt_of o h1
        obtain ⟨g2, m2⟩ := blt_of o h2
        obtain ⟨g4, m4⟩ := blt_of o h4
        simp only [List.all_cons, Bool.and_eq_true, List.all_nil] at hs
        exact pe_isLTT g1 m1 (by decide +kernel) g2 m2 (by decide +kernel) g4 m4 (by decide +kernel) (ih _ _ h3 X W o) (by decide +kernel) (by decide +kernel) (by decide +kernel) (by decide +kernel) (by decide +kernel) (by decide +kernel) (star_cons hs.1) (star_cons hs.2.1) (back_any (by rfl))
      · cases h
    rw [if_neg hlt] at h
    by_cases hrp : b = .repr
    · subst hrp
      rw [if_pos rfl] at h
      simp only [Bool.and_eq_true, decide_eq_true_eq, Bool.not_eq_true'] at h
      obtain ⟨⟨⟨h1, rfl⟩, h2⟩, h3⟩ := h
      obtain ⟨g1, m1⟩ := blt_of o h1
      cases es with
      | nil => cases h2
      | cons a es =>
        have hs2 : es.all notStar = true := by rw [List.all_cons, Bool.and_eq_true] at hs; exact hs.2
        have hs1 : notStar a = true := by rw [List.all_cons, Bool.and_eq_true] at hs; exact hs.1
        exact pe_reprr o.gd o.room g1 m1 (by decide +kernel) (ih _ _ h3 X W o) (by decide +kernel) (by decide +kernel) (star_cons hs1) (back_any hs2)
    rw [if_neg hrp] at h
    by_cases hd : (isD b).isSome = true
    · rw [if_pos hd] at h
      obtain ⟨⟨t, fd⟩, ed⟩ := Option.isSome_iff_exists.mp hd
      split at h
      · rename_i a y p2 A
        simp only [Bool.and_eq_true, decide_eq_true_eq] at h
        obtain ⟨⟨⟨⟨h1, rfl⟩, h2⟩, rfl⟩, h3⟩ := h
        obtain ⟨g1, m1⟩ := blt_of o h1
        obtain ⟨g2, m2⟩ := blt_of o h2
        obtain ⟨b1, b2, b3⟩ := boot_is ed
        simp only [List.all_cons, Bool.and_eq_true, List.all_nil] at hs
        exact pe_isii ed g1 m1 (by decide +kernel) g2 m2 b1 (ih _ _ h3 X W o) (by decide +kernel) (by decide +kernel) b2 b3 (star_cons hs.1) (star_cons hs.2.1) (back_any (by rfl))
      · cases h
    · rw [if_neg hd] at h
      simp only [Bool.and_eq_true, decide_eq_true_eq, Bool.not_eq_true'] at h
      obtain ⟨⟨⟨h1, rfl⟩, h2⟩, h3⟩ := h
      obtain ⟨g1, m1⟩ := blt_of o h1
      cases es with
      | nil => cases h2
      | cons a es =>
        have hs2 : es.all notStar = true := by rw [List.all_cons, Bool.and_eq_true] at hs; exact hs.2
        have hs1 : notStar a = true := by rw [List.all_cons, Bool.and_eq_true] at hs; exact hs.1
        have ha : PA X (a :: es) (tBs X.K Ca W C g Es) := ih _ _ h3 X W o
        rcases one_of b with ⟨i, ei⟩ | ⟨i, ei⟩ | ei | ei | ei
        · obtain ⟨b1, b2, b3⟩ := boot_id ei
          exact pe_bltf o.calm ei g1 m1 b1 ha b2 b3 (star_cons hs1) (back_any hs2)
        · obtain ⟨b1, b2, b3⟩ := boot_ty ei
          exact pe_bltt o.calm ei g1 m1 b1 ha b2 b3 (star_cons hs1) (back_any hs2)
        · exact absurd ei hd
        · exact absurd ei hlt
        · exact absurd ei hrp
theorem one_star {a : Expr} {env : PySem.Env} (h : [a].all notStar = true) : starEach [a] env = [(false, eval a env)] := by rw [star_map h]; rfl
theorem methOk_ok {x : Expr} {m : Mth} {O : E} {Es : List E} (h : methOk r c x m O Es = true) : PE X x (tE X.K Ca W C g (.meth m O Es)) := by
  unfold methOk at h
  split at h
  · rename_i o' nm apos es pos
    simp only [Bool.and_eq_true, decide_eq_true_eq] at h
    obtain ⟨⟨⟨⟨⟨rfl, h1⟩, h2⟩, h3⟩, h4⟩, h5⟩ := h
    have ho : PE X o' (tE X.K Ca W C g O) := ih _ _ h3 X W o
    split at h5
    · exact pe_joinn ho (ih _ _ h5 X W o) (one_star ih o h4) (attr_of h1) h2
    · exact pe_splitt ho (ih _ _ h5 X W o) (one_star ih o h4) (attr_of h1) h2
    · exact pe_sindexx ho (ih _ _ h5 X W o) (one_star ih o h4) (attr_of h1) h2
    · exact pe_popp ho (attr_of h1) h2
    · exact pe_popAtt ho (ih _ _ h5 X W o) (attr_of h1) (few_of h4 (by simp)) h2 (star_cons (by simpa using h4)) (back_any (by rfl))
    · rename_i a b A B
      rw [Bool.and_eq_true] at h5
      exact pe_gett o.room ho (ih _ _ h5.1 X W o) (ih _ _ h5.2 X W o) ⟨attr_of h1, few_of h4 (by simp), h2, by rw [back_eq h4]; rfl⟩
    · cases h5
  · cases h
theorem revB_ok {x : Expr} {A : E} (h : revB r c x A = true) : PE X x (tE X.K Ca W C g (.rev A)) := by
  unfold revB at h
  split at h
  · simp only [Bool.and_eq_true, decide_eq_true_eq] at h
    obtain ⟨rfl, h⟩ := h
    exact pe_revv (ih _ _ h X W o)
  · simp only [Bool.and_eq_true, decide_eq_true_eq] at h
    obtain ⟨⟨⟨⟨⟨h1, rfl⟩, h2⟩, rfl⟩, h3⟩, h4⟩ := h
    obtain ⟨g1, m1⟩ := blt_of o h1
    obtain ⟨g2, m2⟩ := blt_of o h2
    exact pe_lrev o.calm g1 m1 g2 m2 (ih _ _ h4 X W o) (star_cons h3) (star_cons (by rfl))
  · cases h
theorem loB_ok {cut : Bool} {lo : Option Expr} (h : loB cut lo = true) : PO X lo (fun σ H Q => Q (if cut then some (-2) else none) H) := by
  unfold loB at h
  split at h
  · exact back_lo (p1 := ⟨0, 0, 0, 0⟩) (p2 := ⟨0, 0, 0, 0⟩) (k := 0) rfl
  · rw [decide_eq_true_eq] at h; subst h; exact back_lo (cut := true) rfl
  · cases h
theorem revtB_ok {x : Expr} {cut : Bool} {A : E} (h : revtB r c x cut A = true) : PE X x (tE X.K Ca W C g (.revt cut A)) := by
  unfold revtB at h
  split at h
  · simp only [Bool.and_eq_true, decide_eq_true_eq] at h
    obtain ⟨⟨rfl, h1⟩, h⟩ := h
    exact pe_revtt (loB_ok ih o h1) (ih _ _ h X W o)
  · cases h
theorem nilB_ok {x : Expr} {eq : Bool} {A : E} (h : nilB r c x eq A = true) : PE X x (tE X.K Ca W C g (.nilc eq A)) ∧ PT X x (tT X.K Ca W C g (.nilc eq A)) := by
  unfold nilB at h
  split at h
  · simp only [Bool.and_eq_true, decide_eq_true_eq] at h
    obtain ⟨rfl, h⟩ := h
    exact ⟨pe_nilcc o.room (ih _ _ h X W o), pt_nilcc o.room (ih _ _ h X W o)⟩
  · cases h
theorem litB_ok {x : Expr} {l : Lit} (h : litB x l = true) : PE X x (tE X.K Ca W C g (.lit l)) := by
  unfold litB at h
  split at h
  · exact pe_lit (l := .non)
  · rw [beq_iff_eq] at h; subst h; exact pe_lit (l := .bl _)
  · rw [decide_eq_true_eq] at h; subst h; exact pe_lit (l := .int _)
  · rw [decide_eq_true_eq] at h; subst h; exact pe_lit (l := .str _)
  · cases h
theorem chkE_ok {x : Expr} {A : E} (h : chkE r c x A = true) : PE X x (tE X.K Ca W C g A) := by
  unfold chkE at h
  split at h
  · exact litB_ok ih o h
  · split at h
    · simp only [Bool.and_eq_true, decide_eq_true_eq] at h
      obtain ⟨⟨h1, h2⟩, h3⟩ := h
      obtain ⟨h3, h4⟩ := plainN_of h3
      exact pe_varr (by rw [o.N]; exact h1) (by rw [o.sc]; exact vis_of h2) h3 h4
    · cases h
  · split at h
    · simp only [Bool.and_eq_true, decide_eq_true_eq] at h
      obtain ⟨⟨h1, h2⟩, h3⟩ := h
      obtain ⟨h4, _⟩ := plainN_of h2
      obtain ⟨u, v, d, m, rv, e, hr⟩ := o.csts _ _ h3
      exact pe_globb (gl_of o h1) m rv e hr h4
    · cases h
  · split at h
    · simp only [Bool.and_eq_true, decide_eq_true_eq] at h
      obtain ⟨⟨rfl, h1⟩, h2⟩ := h
      exact pe_bin _ (ih _ _ h1 X W o) (ih _ _ h2 X W o)
    · cases h
  · split at h
    · exact pe_neg (ih _ _ h X W o)
    · cases h
  · split at h
    · exact pe_nott (ih _ _ h X W o)
    · cases h
  · split at h
    · simp only [Bool.and_eq_true, decide_eq_true_eq] at h
      obtain ⟨⟨⟨rfl, h0⟩, h1⟩, h2⟩ := h
      exact pe_cmpp o.room _ (ih _ _ h1 X W o) (ih _ _ h2 X W o) (marks_of h0)
    · cases h
  · split at h
    · simp only [Bool.and_eq_true, decide_eq_true_eq] at h
      obtain ⟨⟨⟨⟨⟨rfl, rfl⟩, h0⟩, h1⟩, h2⟩, h3⟩ := h
      exact pe_chainn o.room _ _ (ih _ _ h1 X W o) (ih _ _ h2 X W o) (ih _ _ h3 X W o) (marks_of h0)
    · cases h
  · split at h
    · rw [Bool.and_eq_true] at h
      exact pe_andd (ih _ _ h.1 X W o) (pe_one (ih _ _ h.2 X W o))
    · rw [Bool.and_eq_true] at h
      exact pe_andd (ih _ _ h.1 X W o) (ih _ _ h.2 X W o)
    · cases h
  · split at h
    · rw [Bool.and_eq_true] at h
      exact pe_orr (ih _ _ h.1 X W o) (pe_one (ih _ _ h.2 X W o))
    · rw [Bool.and_eq_true] at h
      exact pe_orr (ih _ _ h.1 X W o) (ih _ _ h.2 X W o)
    · cases h
  · split at h
    · simp only [Bool.and_eq_true] at h
      exact pe_itee (ih _ _ h.1.1 X W o) (ih _ _ h.1.2 X W o) (ih _ _ h.2 X W o)
    · cases h
  · split at h
    · exact pe_tupp (ih _ _ h X W o)
    · cases h
  · split at h
    · exact pe_lstt (ih _ _ h X W o)
    · cases h
  · exact pe_cell (ih _ _ h X W o)
  · split at h
    · rename_i ks Es _ _
      rw [Bool.and_eq_true] at h
      cases ks with
      | nil =>
        cases Es with
        | nil => exact pe_dct0
        | cons _ _ => cases h.2
      | cons _ _ => cases h.1
    · simp only [Bool.and_eq_true, decide_eq_true_eq, Bool.not_eq_true'] at h
      obtain ⟨⟨⟨⟨⟨h1, h2⟩, h3⟩, h4⟩, h5⟩, h6⟩ := h
      exact pe_dctt (ih _ _ h1 X W o _) h2 h3 (by intro z; rw [z] at h4; cases h4) h5 h6
    · cases h
  · split at h
    · simp only [Bool.and_eq_true] at h
      exact pe_idxx o.room (ih _ _ h.1.2 X W o) (ih _ _ h.2 X W o) (plain_of h.1.1)
    · cases h
  · split at h
    · simp only [Bool.and_eq_true] at h
      exact pe_slcc (ih _ _ h.1.1 X W o) (ih _ _ h.1.2 X W o) (ih _ _ h.2 X W o)
    · cases h
  · exact revB_ok ih o h
  · exact revtB_ok ih o h
  · exact (nilB_ok ih o h).1
  · obtain ⟨elt, tg, iter, ifs, scope, pos, rfl, h1, h2, h3, h4, h5, h6, h7, h8⟩ := comp_ok ih o h
    have := pe_compp (W := W) (pos := pos) o.calm (by rw [o.N]; exact o.nd) h1 h3 h4 h5 h6 (fold_of h7) h8
    rw [h2] at this
    exact this
  · rename_i f Es
    cases e : callB x with
    | none => rw [e] at h; cases h
    | some p =>
      obtain ⟨n, es⟩ := p
      rw [e] at h
      obtain ⟨p, pos, rfl, hs⟩ := callB_ok ih o e
      simp only [Bool.and_eq_true, decide_eq_true_eq] at h
      obtain ⟨⟨⟨⟨h1, h2⟩, h3⟩, h4⟩, h5⟩ := h
      obtain ⟨h2, _⟩ := plainN_of h2
      obtain ⟨fa, fd, ps, F, m, kp, hb⟩ := o.fns _ _ h3
      cases es with
      | nil =>
        cases Es with
        | nil => exact pe_calll0 F o.gd o.room (gl_of o h1) m kp hb h2
        | cons _ _ => cases h5
      | cons a es =>
        cases Es with
        | nil => cases h5
        | cons A Es =>
          rw [List.all_cons, Bool.and_eq_true] at hs
          exact pe_calll o.tk F o.gd o.room (gl_of o h1) m kp hb (ih _ _ h4 X W o) h2 (star_cons hs.1) (back_any hs.2)
  · exact bltOk_ok ih o h
  · exact methOk_ok ih o h
  all_goals cases h
end
end
end J
/-! the checker is sound. -/
namespace J
open PySem L2 PySem.Spec PyProof.Rows
section
variable {k : Nat} {Ca : Str → Addr} {C : Calls} {g : GT} {r : Ct → Jd → Bool} {c : Ct} {X : Cx} {W : WX}
theorem sws_notName {e t : Expr} {l : Nat} {env : PySem.Env} (h : notName t = true) : swapsWithSole [t] e l env = pure false := sw_notName h
theorem asgn_sub {o i : Expr} {p : Pos} {env : PySem.Env} (h : notSlice i = true) : ∀ v, assign (.Subscript o i p) env v = (do
      let ov ← holding [v] (eval o env)
      let iv ← holding [v, ov] (eval i env)
      standAt p
      holding [v, ov, iv] (setItem ov iv v)
      release [v, ov, iv] []) := fun v => by
  cases i <;> first | rfl | cases h
theorem cell_core {A : E} {σ : St} {H : Hp} {Q : VK} (h : tE X.K Ca W C g (.cell A) σ H Q) : tE X.K Ca W C g A σ H Q := by
  obtain ⟨Z, G, μ, ρ, hv, rl, h⟩ := h
  refine ⟨Z, G, μ, ρ, hv, rl, ?_⟩
  simp only [evalE] at h
  unfold At M.bind at h
  unfold At
  cases e : evalE C g A ρ μ with
  | none => rw [e] at h; exact h
  | some r =>
    rw [e] at h
    cases r with
    | exc x μ1 => exact h
    | ok rv μ1 =>
      intro G1 v H1 e1 ok1 r1
      cases rv with
      | v d => exact False.elim h
      | bo i ds => exact False.elim h
      | fr ds =>
        obtain ⟨p, vs, rfl, h0, h1, h2, h3, h4⟩ := r1
        have st : Stay X.K G1 H1 ⟨G1.φ ++ [p], G1.Fz⟩ H1 := ⟨fun n a h => by
          show (G1.φ ++ [p])[n]? = some a
          obtain ⟨hl, _⟩ := List.getElem?_eq_some_iff.mp h
          rw [List.getElem?_append_left hl]; exact h, fun _ h => h, fun _ _ h _ => h, fun _ _ h _ => h⟩
        obtain ⟨e2, ok2⟩ := newCell (Ca := Ca) (c := .lst ds) e1 ok1 h0 (by rw [h1]; intro z; cases z) h3 h4 ⟨vs, h1, st.reps _ _ h2⟩ (by intro z; cases z)
        have h : ∀ G2 v H2, Ext G μ H G2 (μ1 ++ [.lst ds]) H2 → Okk X.K Ca G2 (μ1 ++ [.lst ds]) H2 → RvR X.K ρ σ G2 H H2 (.v (.ref μ1.length)) v → Q v H2 := h
        refine h _ _ _ e2 ok2 ?_
        show Rep X.K ⟨G1.φ ++ [p], G1.Fz⟩ H1 (.ref μ1.length) (.ref p)
        simp only [Rep]
        refine ⟨p, rfl, ?_⟩
        show (G1.φ ++ [p])[μ1.length]? = some p
        rw [ok1.len, List.getElem?_append_right (Nat.le_refl _)]
        simp
theorem swC_eq {elt : Expr} {gs : List Comprehension} {scope : Scope} {pos p : Pos} {x : Str} {l : Nat} {env : PySem.Env} {sc : Scope} (he : env.scope = sc) : swapsWith (.ListComp elt gs scope pos) (some (.Name x p)) l env = pure (swC sc x p.line (.ListComp elt gs scope pos)) := by
  subst he; rfl
section
variable (ih : ∀ c j, r c j = true → ∀ X W, CtOk k Ca C g X W c → Snd Ca C g X W j) (o : CtOk k Ca C g X W c)
include ih o
theorem chkT_ok {x : Expr} {A : E} (h : chkT r c x A = true) : PT X x (tT X.K Ca W C g A) := by
  unfold chkT at h
  split at h
  · split at h
    · simp only [Bool.and_eq_true, decide_eq_true_eq] at h
      obtain ⟨⟨⟨rfl, h0⟩, h1⟩, h2⟩ := h
      exact pt_cmpp o.room _ (ih _ _ h1 X W o) (ih _ _ h2 X W o) (marks_of h0)
    · exact (nilB_ok ih o h).2
    · cases h
  · split at h
    · simp only [Bool.and_eq_true, decide_eq_true_eq] at h
      obtain ⟨⟨⟨⟨⟨rfl, rfl⟩, h0⟩, h1⟩, h2⟩, h3⟩ := h
      exact pt_chainn o.room _ _ (ih _ _ h1 X W o) (ih _ _ h2 X W o) (ih _ _ h3 X W o) (marks_of h0)
    · cases h
  · split at h
    · exact pt_nott (ih _ _ h X W o)
    · cases h
  · exact PW.pt (ih _ _ h X W o)
  · rw [Bool.and_eq_true] at h
    exact pt_tru (ih _ _ h.2 X W o) (tru_of' h.1)
theorem chkW_ok {x : Expr} {A : E} (h : chkW r c x A = true) : PW X x (tT X.K Ca W C g A) := by
  unfold chkW at h
  split at h
  · rename_i op a pos
    cases op with
    | And => exact pw_and1 (ih _ _ h X W o)
    | Or => exact pw_or1 (ih _ _ h X W o)
  · split at h
    · rw [Bool.and_eq_true] at h
      exact pw_andd (ih _ _ h.1 X W o) (ih _ _ h.2 X W o)
    · cases h
  · split at h
    · rw [Bool.and_eq_true] at h
      exact pw_orr (ih _ _ h.1 X W o) (ih _ _ h.2 X W o)
    · cases h
  · cases h
theorem chkAs_ok {xs : List Expr} {As : List E} (h : chkAs r c xs As = true) : PA X xs (tAs X.K Ca W C g As) := by
  unfold chkAs at h
  split at h
  · exact pa_nill
  · simp only [Bool.and_eq_true] at h
    exact pa_conss (ih _ _ h.1.2 X W o) (ih _ _ h.2 X W o) (star_cons h.1.1)
  · cases h
theorem chkBs_ok {xs : List Expr} {As : List E} (h : chkBs r c xs As = true) : PA X xs (tBs X.K Ca W C g As) := by
  unfold chkBs at h
  split at h
  · exact pb_nill
  · simp only [Bool.and_eq_true] at h
    exact pb_conss (ih _ _ h.1.2 X W o) (ih _ _ h.2 X W o) (star_cons h.1.1)
  · cases h
theorem chkO_ok {x : Option Expr} {A : Option E} (h : chkO r c x A = true) : PO X x (tO X.K Ca W C g A) := by
  unfold chkO at h
  split at h
  · exact po_nonee
  · exact po_somee (ih _ _ h X W o)
  · cases h
theorem isTupX_ok {x : Expr} (h : isTupX x = true) : ∃ es k p, x = .Tuple es k p := by
  cases x <;> first | exact ⟨_, _, _, rfl⟩ | cases h
theorem chkI_ok {tg x : Expr} {A : E} (h : chkI r c tg x A = true) : PI X tg x (tI X.K Ca W C g A) := by
  unfold chkI at h
  split at h
  · split at h
    · simp only [Bool.and_eq_true, decide_eq_true_eq] at h
      obtain ⟨⟨⟨h1, rfl⟩, h3⟩, h4⟩ := h
      obtain ⟨g1, m1⟩ := blt_of o h1
      exact pi_rng g1 m1 (ih _ _ h4 X W o) (star_cons h3)
    · cases h
  · split at h
    · simp only [Bool.and_eq_true, decide_eq_true_eq] at h
      obtain ⟨⟨⟨⟨h0, h1⟩, rfl⟩, h3⟩, h4⟩ := h
      obtain ⟨g1, m1⟩ := blt_of o h1
      obtain ⟨es, kk, p, rfl⟩ := isTupX_ok ih o h0
      exact pi_enm g1 m1 (ih _ _ h4 X W o) (star_cons h3)
    · cases h
  · split at h
    · simp only [Bool.and_eq_true, decide_eq_true_eq] at h
      obtain ⟨⟨⟨⟨⟨h0, h1⟩, rfl⟩, h3⟩, h3'⟩, h4⟩ := h
      obtain ⟨g1, m1⟩ := blt_of o h1
      obtain ⟨es, kk, p, rfl⟩ := isTupX_ok ih o h0
      exact pi_zipp g1 m1 (ih _ _ h4 X W o) (star_cons h3) (back_any (by simp [h3']))
    · cases h
  · split at h
    · simp only [Bool.and_eq_true, decide_eq_true_eq] at h
      obtain ⟨⟨⟨h1, rfl⟩, h3⟩, h4⟩ := h
      obtain ⟨g1, m1⟩ := blt_of o h1
      exact pi_revv g1 m1 (ih _ _ h4 X W o) (star_cons h3)
    · cases h
  · exact pi_plain (ih _ _ h X W o)
theorem locB_ok {x : Str} (h : locB c x = true) : Loc X.env.scope x ∧ (X.fn x = true ∨ X.env.scope.names.lookup x = some .local) := by
  unfold locB at h
  simp only [Bool.or_eq_true, Bool.and_eq_true, decide_eq_true_eq] at h
  rcases h with h | ⟨h1, h2⟩
  · exact ⟨.inl (by rw [o.sc]; exact h), .inr (by rw [o.sc]; exact h)⟩
  · exact ⟨.inr (by rw [o.sc]; exact h1), .inl (o.fn x h2)⟩
theorem chkG_ok {x : Expr} {t : T} (h : chkG r c x t = true) : PG X x (gT X.K Ca t) := by
  unfold chkG at h
  split at h
  · split at h
    · simp only [Bool.and_eq_true, decide_eq_true_eq] at h
      obtain ⟨l1, l2⟩ := locB_ok ih o h.2
      exact pg_nm (by rw [o.N]; exact o.nd) (by rw [o.N]; exact h.1) l1 l2
    · cases h
  · split at h
    · simp only [Bool.and_eq_true, decide_eq_true_eq] at h
      obtain ⟨⟨h1, h2⟩, h3⟩ := h
      refine pg_tp o.calm (ih _ _ h3 X W o) (by rw [asg_map h1, List.length_map]; exact h2) ?_
      rw [asg_map h1]
      simp
    · cases h
theorem chkGs_ok {xs : List Expr} {ts : List T} (h : chkGs r c xs ts = true) : PGs X xs (gTs X.K Ca ts) := by
  unfold chkGs at h
  split at h
  · exact pgs_nill
  · simp only [Bool.and_eq_true] at h
    exact pgs_conss (ih _ _ h.1.2 X W o) (ih _ _ h.2 X W o) (by rw [asg_cons h.1.1]; rfl)
  · cases h
theorem chkC_ok {xs : List Expr} {A : Option E} (h : chkC r c xs A = true) : PTs X xs (tC' X.K Ca W C g A) := by
  unfold chkC at h
  split at h
  · exact pts_nonee
  · exact pts_somee (ih _ _ h X W o)
  · cases h
theorem keyB_ok {K : Key} {x : Option Expr} (h : keyB K x = true) : ∃ e, x = some e ∧ keyE K e := by
  unfold keyB at h
  split at h
  · rw [decide_eq_true_eq] at h; subst h; exact ⟨_, rfl, _, _, rfl⟩
  · rw [decide_eq_true_eq] at h; subst h; exact ⟨_, rfl, _, _, rfl⟩
  · cases h
theorem chkPr_ok {ks : List (Option Expr)} {xs : List Expr} {Ks : List Key} {As : List E} (h : chkPr r c ks xs Ks As = true) (pos : Pos) : PrOk X pos ks xs (tPr X.K Ca W C g Ks As) := by
  unfold chkPr at h
  split at h
  · exact pr_nil
  · simp only [Bool.and_eq_true] at h
    obtain ⟨e, rfl, q⟩ := keyB_ok ih o h.1.1
    exact pr_cons q (ih _ _ h.1.2 X W o) (ih _ _ h.2 X W o pos)
  · cases h
/-- name = value, by whichever rule -/
theorem name_ok {i : Nat} {x : Str} {p pos : Pos} {e : Expr} {A : E} {s : S} (hi : c.N[i]? = some x) (hl : locB c x = true) (h : nameB r c x p.line e A = true) (core : ∀ D σ H, tS X.K Ca W C g s D σ H → tAsg (tE X.K Ca W C g A) (gName i) D σ H) :
    PS X (.Assign [.Name x p] e pos) (tS X.K Ca W C g s) := by
  obtain ⟨l1, l2⟩ := locB_ok ih o hl
  have nd : X.N.Nodup := by rw [o.N]; exact o.nd
  have hi' : X.N[i]? = some x := by rw [o.N]; exact hi
  unfold nameB at h
  split at h
  · rename_i hsw
    have hloc : X.env.scope.names.lookup x = some .local := by
      unfold swC at hsw
      split at hsw
      · simp only [Bool.and_eq_true] at hsw
        rw [o.sc]; exact eq_of_beq hsw.1.1.2
      · cases hsw
    split at h
    · obtain ⟨elt, tg, iter, ifs, scope, pos', rfl, h1, h2, h3, h4, h5, h6, h7, h8⟩ := comp_ok ih o h
      have q := ps_setLcc (W := W) (spos := pos) (py := p) o.calm nd hi' hloc (by rw [swC_eq o.sc, hsw]) h1 h3 h4 h5 h6 (fold_of h7) h8
      rw [h2] at q
      exact q.weak core
    · obtain ⟨elt, tg, iter, ifs, scope, pos', rfl, h1, h2, h3, h4, h5, h6, h7, h8⟩ := comp_ok ih o h
      have q := ps_setLcc (W := W) (spos := pos) (py := p) o.calm nd hi' hloc (by rw [swC_eq o.sc, hsw]) h1 h3 h4 h5 h6 (fold_of h7) h8
      rw [h2] at q
      exact q.weak fun D σ H h => cell_core (core D σ H h)
    · cases h
  · rename_i hsw
    rw [Bool.and_eq_true] at h
    refine (ps_set nd hi' l1 (ih _ _ h.2 X W o) ?_ l2).weak core
    have h1 := h.1
    cases e with
    | ListComp elt gs scope pos' => rw [swC_eq o.sc, Bool.eq_false_iff.mpr hsw]
    | SetComp _ _ _ _ => cases h1
    | DictComp _ _ _ _ _ => cases h1
    | _ => rfl
theorem chkS_ok {x : Stmt} {s : S} (h : chkS r c x s = true) (hp : PassesOwn (model X.prog X.w) X.A X.env X.xe) : PS X x (tS X.K Ca W C g s) := by
  have nd : X.N.Nodup := by rw [o.N]; exact o.nd
  have ix : ∀ {i : Nat} {n : Str}, c.N[i]? = some n → X.N[i]? = some n := fun h => by rw [o.N]; exact h
  have lc : ∀ {n : Str}, c.sc.names.lookup n = some .local → X.env.scope.names.lookup n = some .local := fun h => by rw [o.sc]; exact h
  unfold chkS at h
  split at h
  · split at h
    · simp only [Bool.and_eq_true, decide_eq_true_eq] at h
      exact name_ok ih o h.1.1 h.1.2 h.2 fun D σ H q => name_core q
    · cases h
  · split at h
    · simp only [Bool.and_eq_true, Bool.or_eq_true] at h
      obtain ⟨⟨h1, h2⟩, h3⟩ := h
      refine ps_asgg (ih _ _ h1 X W o) (ih _ _ h2 X W o) (sws_notName rfl) ?_ rfl
      rcases h3 with h3 | h3
      · exact swS_noTup h3
      · split at h3
        · rw [decide_eq_true_eq] at h3
          exact swB_ok o.sc h3
        · cases h3
    · cases h
  · split at h
    · simp only [Bool.and_eq_true, decide_eq_true_eq] at h
      exact name_ok ih o h.1.1 h.1.2 h.2 fun D σ H q => own_core q
    · cases h
  · split at h
    · simp only [Bool.and_eq_true, decide_eq_true_eq] at h
      obtain ⟨⟨⟨⟨⟨⟨h1, h2⟩, h3⟩, h4⟩, h5⟩, h6⟩, h7⟩ := h
      exact ps_parr o.calm nd (ix h1) (ix h2) h7 (lc h3) (lc h4) (ih _ _ h6 X W o) (swB_ok o.sc h5) rfl
    · cases h
  · split at h
    · simp only [Bool.and_eq_true, decide_eq_true_eq] at h
      obtain ⟨⟨⟨⟨⟨⟨⟨⟨⟨⟨h1, h2⟩, h3⟩, h4⟩, h5⟩, h6⟩, h7⟩, h8⟩, h9⟩, h10⟩, h11⟩ := h
      exact ps_parr3 o.calm nd (ix h1) (ix h2) (ix h3) h9 h10 h11 (lc h4) (lc h5) (lc h6) (ih _ _ h8 X W o) (swB_ok o.sc h7) rfl
    · cases h
  · cases h
  · split at h
    · simp only [Bool.and_eq_true] at h
      exact ps_putt o.room (ih _ _ h.1.1.2 X W o) (ih _ _ h.1.2 X W o) (ih _ _ h.2 X W o) (asgn_sub h.1.1.1) (sws_notName rfl) (swS_notTup rfl) rfl
    · cases h
  · split at h
    · simp only [Bool.and_eq_true, decide_eq_true_eq] at h
      obtain ⟨⟨⟨⟨⟨rfl, h1⟩, h2⟩, h3⟩, h4⟩, h5⟩ := h
      exact ps_appp (ih _ _ h4 X W o) (ih _ _ h5 X W o) (attr_of h1) (few_of (by simp [h3]) (by simp)) h2 (star_cons h3) (back_any rfl) rfl
    · cases h
  · split at h
    · simp only [Bool.and_eq_true, decide_eq_true_eq] at h
      obtain ⟨⟨⟨⟨⟨rfl, h1⟩, h2⟩, h3⟩, h4⟩, h5⟩ := h
      exact ps_extt (ih _ _ h4 X W o) (ih _ _ h5 X W o) (attr_of h1) (few_of (by simp [h3]) (by simp)) h2 (star_cons h3) (back_any rfl) rfl
    · cases h
  · split at h
    · exact ps_rett (ih _ _ h X W o)
    · cases h
  · split at h
    · simp only [Bool.and_eq_true] at h
      exact ps_iff (ih _ _ h.1.1 X W o) (ih _ _ h.1.2 X W o hp) (ih _ _ h.2 X W o hp)
    · cases h
  · split at h
    · simp only [Bool.and_eq_true] at h
      exact ps_forr hp o.calm (ih _ _ h.1.1.1 X W o) (ih _ _ h.1.1.2 X W o) (ih _ _ h.1.2 X W o hp) (fold_of h.2)
    · cases h
  · split at h
    · simp only [Bool.and_eq_true] at h
      exact ps_whll hp (ih _ _ h.1 X W o) (ih _ _ h.2 X W o hp)
    · cases h
  · split at h
    · simp only [Bool.and_eq_true] at h
      exact ps_exprr (ih _ _ h.2 X W o) (sw_notComp h.1)
    · cases h
  · split at h
    · exact ps_passs
    · cases h
  · split at h
    · exact ps_contt
    · cases h
  · split at h
    · simp only [Bool.and_eq_true, decide_eq_true_eq] at h
      obtain ⟨⟨⟨⟨⟨⟨rfl, h1⟩, h2⟩, h3⟩, h3'⟩, h4⟩, h5⟩ := h
      exact ps_inss (ih _ _ h4 X W o) (ih _ _ h5 X W o) (attr_of h1) (few_of (by simp [h3, h3']) (by simp)) h2 (star_cons h3) (back_any (by simp [h3'])) rfl
    · cases h
  · split at h
    · simp only [Bool.and_eq_true, decide_eq_true_eq] at h
      obtain ⟨⟨⟨rfl, h1⟩, h2⟩, h4⟩ := h
      exact ps_clrr (ih _ _ h4 X W o) (attr_of h1) h2 rfl
    · cases h
  · split at h
    · simp only [Bool.and_eq_true, decide_eq_true_eq] at h
      obtain ⟨⟨⟨rfl, h1⟩, h2⟩, h4⟩ := h
      exact ps_rvss (ih _ _ h4 X W o) (attr_of h1) h2 rfl
    · cases h
  · cases h
theorem chkSs_ok {xs : List Stmt} {s : List S} (h : chkSs r c xs s = true) (hp : PassesOwn (model X.prog X.w) X.A X.env X.xe) : PSs X xs (tSs X.K Ca W C g s) := by
  unfold chkSs at h
  split at h
  · cases xs with
    | nil => exact pss_nill
    | cons _ _ => cases h
  · exact pss_share (ih _ _ h X W o hp)
  · split at h
    · rw [Bool.and_eq_true] at h
      exact pss_conss (ih _ _ h.1 X W o hp) (ih _ _ h.2 X W o hp)
    · cases h
theorem chkJ_ok {j : Jd} (h : chkJ r c j = true) : Snd Ca C g X W j := by
  cases j with
  | e x A => exact chkE_ok ih o h
  | t x A => exact chkT_ok ih o h
  | w x A => exact chkW_ok ih o h
  | as xs As => exact chkAs_ok ih o h
  | bs xs As => exact chkBs_ok ih o h
  | o x A => exact chkO_ok ih o h
  | i tg x A => exact chkI_ok ih o h
  | g x t => exact chkG_ok ih o h
  | gs xs ts => exact chkGs_ok ih o h
  | c xs A => exact chkC_ok ih o h
  | pr ks xs Ks As => exact chkPr_ok ih o h
  | s x s => exact chkS_ok ih o h
  | ss xs s => exact chkSs_ok ih o h
end
theorem chk_ok : ∀ (n : Nat) (c : Ct) (j : Jd), chk n c j = true → ∀ X W, CtOk k Ca C g X W c → Snd Ca C g X W j
  | 0, _, _, h => by cases h
  | n + 1, c, j, h => fun X W o => chkJ_ok (chk_ok n) o h
end
end J
/-! a law's call, no guard under way. -/
namespace J
open PySem L2 PySem.Spec PyProof.Rows
/-- the script's list, as it lies -/
def scriptO (vs : List Value) : Obj := { cls := .type "list", data := .seq vs.toArray }
/-- nothing is followed but the script at a, and that only where the module has no such object -/
def scriptH (K : PySem.W.Frag) (a : Addr) (vs : List Value) (ns : List Int) : Hp := fun b => if b = a ∧ K.lookup a = none then some (.frz (scriptO vs) (.lst (ns.map V.int))) else none
section
variable {K : PySem.W.Frag} {a b : Addr} {vs : List Value} {ns : List Int} {u : HO}
theorem scriptH_some (h : scriptH K a vs ns b = some u) : b = a ∧ K.lookup a = none ∧ u = .frz (scriptO vs) (.lst (ns.map V.int)) := by
  unfold scriptH at h
  by_cases c : b = a ∧ K.lookup a = none
  · rw [if_pos c] at h; cases h; exact ⟨c.1, c.2, rfl⟩
  · rw [if_neg c] at h; cases h
theorem scriptH_only : Only (scriptH K a vs ns) := fun b => by
  cases q : scriptH K a vs ns b with
  | none => exact .inl rfl
  | some u => exact .inr ⟨_, _, by rw [(scriptH_some q).2.2]⟩
theorem scriptH_sq {h : Heap} (kin : K.In h) (at_ : h.get? a = some (scriptO vs)) (hi : IntsAre vs ns) (hl : ns.length ≤ sizeLine) : SqL K (scriptH K a vs ns) a (ns.map V.int) := by
  cases c : K.lookup a with
  | none => exact .inl (.inr ⟨scriptO vs, if_pos ⟨rfl, c⟩⟩)
  | some o =>
    have e : o = scriptO vs := by
      have z := kin a o c
      rw [at_] at z
      exact (Option.some.inj z).symm
    subst e
    refine .inr ⟨_, vs.toArray, _, c, rfl, rfl, rfl, ?_, vals_ints hi⟩
    rw [List.size_toArray, hi.length]; exact hl
theorem scriptH_ok {P : Program} {w : World} {h : Heap} (at_ : h.get? a = some (scriptO vs)) (hi : IntsAre vs ns) (hl : ns.length ≤ sizeLine) : HOk P w (scriptH K a vs ns) h := fun b u z => by
  obtain ⟨rfl, -, rfl⟩ := scriptH_some z
  exact ⟨at_, by rw [List.length_map]; exact hl, vs, _, vals_ints hi, at_⟩
/-- what lies elsewhere stays in the base -/
theorem scriptH_base {h : Heap} {o : Obj} (at_ : h.get? a = some (scriptO vs)) (e : h.get? b = some o) (ne : ∀ its n, o.data ≠ .seq its n) : (hidT h (scriptH K a vs ns)).get? b = some o := by
  refine hidT_get e ?_
  cases z : scriptH K a vs ns b with
  | none => rfl
  | some u =>
    obtain ⟨rfl, -, -⟩ := scriptH_some z
    rw [at_] at e
    cases e
    exact absurd rfl (ne _ _)
theorem scriptH_ns {h : Heap} {m : Str → Option Value} (at_ : h.get? a = some (scriptO vs)) (g : h.Ns b m) : (hidT h (scriptH K a vs ns)).Ns b m := by
  obtain ⟨o, es, ep, e, d, r⟩ := g
  exact ⟨o, es, ep, scriptH_base at_ e (fun its n z => by rw [d] at z; cases z), d, r⟩
theorem scriptH_in {h : Heap} (kin : K.In h) : K.In (hidT h (scriptH K a vs ns)) := fun b o e => by
  refine hidT_get (kin b o e) ?_
  cases z : scriptH K a vs ns b with
  | none => rfl
  | some u =>
    obtain ⟨rfl, c, -⟩ := scriptH_some z
    rw [e] at c; cases c
end
theorem law_G {P : Program} {w : World} {K : PySem.W.Frag} {mg mb : Str → Option Value} {CX : CXT} {k : Nat} {fa a : Addr} {fd : FuncData} {x : Str} {sp : Sp} {s1 : Shared} {vs : List Value} {ns : List Int}
    (kin : K.In s1.heap) (g : s1.heap.Ns mainGlobals mg) (b : s1.heap.Ns builtinsNs mb) (bb : ∀ x : Str, x ≠ "__name__" → mb x = bootBuiltins x) (lim : s1.heap.NoLimit) (gens : s1.gens = #[])
    (at_ : s1.heap.get? a = some (scriptO vs)) (hi : IntsAre vs ns) (hl : ns.length ≤ sizeLine) (room : Room k callerA)
    (F : ∀ base : Heap, K.In base → base.Ns mainGlobals mg → FnG P w K mg base CX k fa fd [x] sp) (bind : ∀ (s : Shared) (u : Value), BindsTo s fd ⟨[u], []⟩ [(x, u)])
    (ps : ∀ H : Hp, Only H → SqL K H a (ns.map V.int) → sp [.ref a] H (fun v _ => v = .bl true) fun _ _ _ => False) (nx : ∀ H e s', CX [] H s1 (fun _ _ _ => False) e s' → False) :
    codeAny (model P w) callerA (.call (.ref fa) ⟨[.ref a], []⟩) (fun r s' => r = .ok (.ret (.bool true)) ∧ OldK s1.heap s'.heap ∧ s'.os = s1.os ∧ AllBare s'.gens) s1 := by
  let H := scriptH K a vs ns
  have kb : K.In (hidT s1.heap H) := scriptH_in kin
  have gb : (hidT s1.heap H).Ns mainGlobals mg := scriptH_ns at_ g
  have md : Mod K mg (hidT s1.heap H) := ⟨kb, gb, ⟨mb, scriptH_ns at_ b, bb⟩, lim.elim fun mc z => ⟨mc, scriptH_ns at_ z.1, z.2⟩⟩
  have ok : HOk P w H s1.heap := scriptH_ok at_ hi hl
  have e0 : Env0 P w K mg (hidT s1.heap H) callerA [] s1 H :=
    { frames := rfl, mod := md, bs := fun _ _ z => of_hidT z, bsz := Nat.le_of_eq (hidT_size _ _), funs := trivial, frf := fun _ z => (List.not_mem_nil z).elim, hok := ok, bare := .of_eq gens }
  have go := (F _ kb gb).go callerA [] s1 H ⟨[.ref a], []⟩ [.ref a] [.ref a] _ _ rfl room e0 (bind s1 (.ref a)) (.cons rfl .nil) (ps H scriptH_only (scriptH_sq kin at_ hi hl))
  refine codeAny_mono go fun r s2 z => ?_
  match r, z with
  | .error e, z => exact (nx H e s2 z).elim
  | .ok .next, z => exact z.elim
  | .ok .brk, z => exact z.elim
  | .ok .cont, z => exact z.elim
  | .ok (.ret u), ⟨v, H2, os, bare, un, ok2, rv, q⟩ =>
    cases (show v = V.bl true from q)
    cases (show u = Value.bool true from rv)
    refine ⟨rfl, .of_keep fun c o e => ?_, os, bare⟩
    cases t : H c with
    | none => exact un.keep c o e t (fun z => (List.not_mem_nil z).elim) (by simp)
    | some u =>
      have eu := (scriptH_some t).2.2
      rw [eu] at t
      have o1 := (ok c _ t).1
      have o2 := (ok2 c _ (un.frzs c _ _ t)).1
      rw [e] at o1
      cases o1
      exact o2
/-- the end of a law's walk -/
theorem walk_G {l : PySem.W.OpenLaw} {n k : Nat} {q : Program} {loose : List Str} {XP : (Str → Option Value) → Heap → Prop} {YP : World → Heap → Prop} {d : DefRec} {CX : CXT} {x : Str} (most : l.most = some n) (nl : n ≤ sizeLine) (df : d.params.defaults = []) (room : Room k callerA)
    (F : ∀ (w : World) (mg : Str → Option Value) (fa : Addr) (h : Heap), YP w h → h.Ns mainGlobals mg → mg d.name = some (.ref fa) → ∃ (K : PySem.W.Frag) (fd : FuncData) (sp : Sp), K.In h ∧ (∀ (s : Shared) (u : Value), BindsTo s fd ⟨[u], []⟩ [(x, u)]) ∧
        (∀ (H : Hp) (a : Addr) (ns : List Int), ns.length ≤ n → Only H → SqL K H a (ns.map V.int) → sp [.ref a] H (fun v _ => v = .bl true) fun _ _ _ => False) ∧ ∀ base : Heap, K.In base → base.Ns mainGlobals mg → FnG l.prog w K mg base CX k fa fd [x] sp)
    (nx : ∀ (H : Hp) (s : Shared) (e : Value) (s' : Shared), CX [] H s (fun _ _ _ => False) e s' → False) : PySem.W.WalkO q loose XP YP l.row.toRowW d [] (fun f vs => PySem.call f vs) :=
  Att.attach_call most df fun w s0 s1 mg mb fa o pm cd doc a vs ns G Y _ _ _ hm at_ hi hl gens => by
    obtain ⟨K, fd, sp, kin, bind, ps, FG⟩ := F w mg fa _ Y G.T.g hm
    exact law_G kin G.T.g G.T.b G.T.builtins G.T.nolimit gens at_ hi (Nat.le_trans hl nl) room FG bind (fun H o s => ps H a ns hl o s) fun H e s2 => nx H s1 e s2
end J
/-! a program's functions; constants; the end. -/
namespace J
open PySem L2 PySem.Spec PyProof.Rows
/-- a def of the text, and what is said of it -/
structure DS where
  id : Nat
  x : Str
  N : List Str
  ps : List Str
  params : Arguments
  body : List Stmt
  scope : Scope
  F : Fn
def scopeB (N ps : List Str) (sc : Scope) : Bool := decide (sc.kind = .function) && !sc.isCoroutine && !sc.isGenerator && decide N.Nodup && decide (N.take ps.length = ps) &&
  (ps.all fun x => decide (sc.names.lookup x = some .local) || decide (sc.names.lookup x = some .cell)) && (sc.names.all fun y => decide (y.2 ≠ .free))
theorem scopeB_ok {N ps : List Str} {sc : Scope} (h : scopeB N ps sc = true) : FnScope N ps sc := by
  unfold scopeB at h
  simp only [Bool.and_eq_true, decide_eq_true_eq, List.all_eq_true, Bool.or_eq_true, Bool.not_eq_true'] at h
  obtain ⟨⟨⟨⟨⟨⟨h1, h2⟩, h3⟩, h4⟩, h5⟩, h6⟩, h7⟩ := h
  exact ⟨h1, h2, h3, h4, h5, h6, h7⟩
/-- the parameters are bound as they stand -/
def BindD (d : DS) : Prop := ∀ (kV doc pm : Value) (an : Option Addr) (cdv ct : Value) (us : List Value), us.length = d.ps.length → bindArgs (PySem.W.fnOf d.x d.x d.params d.body d.scope .none kV doc pm an cdv ct) ⟨us, []⟩ = pure (d.ps.zip us)
def allB : List DS → Prop
  | [] => True
  | d :: r => BindD d ∧ allB r
theorem allB_get : ∀ {ds : List DS} {i : Nat} {d : DS}, allB ds → ds[i]? = some d → BindD d
  | [], i, d, _, h => by simp at h
  | a :: r, 0, d, h, e => by simp at e; subst e; exact h.1
  | a :: r, i + 1, d, h, e => allB_get (i := i) h.2 (by simpa using e)
theorem allB_mem : ∀ {ds : List DS} {d : DS}, allB ds → d ∈ ds → BindD d
  | a :: r, d, h, e => (List.mem_cons.mp e).elim (fun e => by rw [e]; exact h.1) fun e => allB_mem h.2 e
/-! ### constants -/
mutual
def repB (K : PySem.W.Frag) : D → Value → Bool
  | .non, u => decide (u = .none)
  | .bl b, u => decide (u = .bool b)
  | .int i, .int j _ => decide (i = j)
  | .str x, .str y _ => decide (x = y)
  | .tup ds, .ref a => (match K.lookup a with
    | some ⟨.type c, _, .seq its _, _⟩ => decide (c = "tuple") && decide (its.size ≤ sizeLine) && repsB K ds its.toList
    | _ => false)
  | _, _ => false
def repsB (K : PySem.W.Frag) : List D → List Value → Bool
  | [], [] => true
  | d :: ds, u :: us => repB K d u && repsB K ds us
  | _, _ => false
end
mutual
theorem repB_ok {K : PySem.W.Frag} : ∀ (d : D) (u : Value), repB K d u = true → ∃ v, RelV v u ∧ ∀ G H, Rep K G H d v
  | .non, u, h => by simp only [repB, decide_eq_true_eq] at h; subst h; exact ⟨.non, rfl, fun G H => by simp only [Rep]⟩
  | .bl b, u, h => by simp only [repB, decide_eq_true_eq] at h; subst h; exact ⟨.bl b, rfl, fun G H => rBl⟩
  | .int i, u, h => by
    cases u with
    | int j t => simp only [repB, decide_eq_true_eq] at h; subst h; exact ⟨.int i, ⟨t, rfl⟩, fun G H => rInt⟩
    | _ => simp [repB] at h
  | .str i, u, h => by
    cases u with
    | str j t => simp only [repB, decide_eq_true_eq] at h; subst h; exact ⟨.str i, ⟨t, rfl⟩, fun G H => rStr⟩
    | _ => simp [repB] at h
  | .tup ds, u, h => by
    cases u with
    | ref a =>
      simp only [repB] at h
      split at h
      · rename_i c od its n sl e
        simp only [Bool.and_eq_true, decide_eq_true_eq] at h
        obtain ⟨⟨rfl, h1⟩, h2⟩ := h
        obtain ⟨vs, r1, r2⟩ := repsB_ok ds its.toList h2
        exact ⟨.ref a, rfl, fun G H => by
          simp only [Rep]
          exact ⟨a, vs, rfl, .inr ⟨_, its, n, e, rfl, rfl, h1, r1⟩, r2 G H⟩⟩
      · cases h
    | _ => simp [repB] at h
  | .lst _, u, h => by cases u <;> simp [repB] at h
  | .ref _, u, h => by cases u <;> simp [repB] at h
  | .src _, u, h => by cases u <;> simp [repB] at h
theorem repsB_ok {K : PySem.W.Frag} : ∀ (ds : List D) (us : List Value), repsB K ds us = true → ∃ vs, Vals vs us ∧ ∀ G H, Reps K G H ds vs
  | [], [], _ => ⟨[], .nil, fun G H => Reps.nil⟩
  | [], _ :: _, h => by simp [repsB] at h
  | _ :: _, [], h => by simp [repsB] at h
  | d :: ds, u :: us, h => by
    simp only [repsB, Bool.and_eq_true] at h
    obtain ⟨v, r1, r2⟩ := repB_ok d u h.1
    obtain ⟨vs, r3, r4⟩ := repsB_ok ds us h.2
    exact ⟨v :: vs, .cons r1 r3, fun G H => Reps.cons (r2 G H) (r4 G H)⟩
end
def cstB (cs : List (Str × D)) (K : PySem.W.Frag) : Bool := cs.all fun p => match PySem.W.nsIn K mainGlobals p.1 with
  | some (some u) => repB K p.2 u
  | _ => false
/-! ### the tables -/
theorem atT_mem {α β : Type} {f : β → Nat × α} : ∀ {bs : List β}, (bs.map fun b => (f b).1).Nodup → ∀ b ∈ bs, atT (bs.map f) (f b).1 = some (f b).2
  | a :: r, hn, b, hb => by
    simp only [List.map_cons, List.nodup_cons] at hn
    simp only [List.map_cons, atT]
    rcases List.mem_cons.mp hb with rfl | hb
    · rw [Nat.beq_refl]; rfl
    · have : Nat.beq (f a).1 (f b).1 = false := by
        cases q : Nat.beq (f a).1 (f b).1 with
        | false => rfl
        | true => exact absurd (List.mem_map.mpr ⟨b, hb, (Nat.eq_of_beq_eq_true q).symm⟩) hn.1
      rw [this]
      exact atT_mem hn.2 b hb
theorem look_mem {β : Type} {f : β → Str × Nat} {x : Str} {i : Nat} : ∀ {bs : List β}, (bs.map f).lookup x = some i → ∃ b ∈ bs, f b = (x, i)
  | a :: r, h => by
    simp only [List.map_cons] at h
    rw [show f a = ((f a).1, (f a).2) from rfl, List.lookup_cons] at h
    cases q : x == (f a).1 with
    | true =>
      rw [q] at h
      simp at h
      subst h
      exact ⟨a, List.mem_cons_self, by rw [eq_of_beq q]⟩
    | false =>
      rw [q] at h
      obtain ⟨b, h1, h2⟩ := look_mem (bs := r) h
      exact ⟨b, List.mem_cons_of_mem _ h1, h2⟩
structure Pg where
  Ds : List DS
  cs : List (Nat × Str × D)
  bs : List Str
def Pg.ct (p : Pg) (d : DS) : Ct := ⟨d.N, d.scope, fun _ => true, p.Ds.map fun d => (d.x, d.id), p.cs.map fun c => (c.2.1, c.1), p.bs⟩
/-- the tables have these functions, these constants -/
def allU (U : FT) : List DS → Prop
  | [] => True
  | d :: r => atT U d.id = some d.F ∧ allU U r
theorem allU_mem {U : FT} : ∀ {ds : List DS} {d : DS}, allU U ds → d ∈ ds → atT U d.id = some d.F
  | a :: r, d, h, e => (List.mem_cons.mp e).elim (fun e => by rw [e]; exact h.1) fun e => allU_mem h.2 e
def allG (G : GT) : List (Nat × Str × D) → Prop
  | [] => True
  | d :: r => atT G d.1 = some d.2.2 ∧ allG G r
theorem allG_mem {G : GT} : ∀ {ds : List (Nat × Str × D)} {d : Nat × Str × D}, allG G ds → d ∈ ds → atT G d.1 = some d.2.2
  | a :: r, d, h, e => (List.mem_cons.mp e).elim (fun e => by rw [e]; exact h.1) fun e => allG_mem h.2 e
def Pg.okD (p : Pg) (n : Nat) (d : DS) : Bool := scopeB d.N d.ps d.scope && decide (d.F.np = d.ps.length) && decide (d.F.ns = d.N.length) && chk n (p.ct d) (.ss d.body d.F.body)
def DS.defD (d : DS) : He.DefD := ⟨(d.x, none), d.x, d.x, d.params, d.body, d.scope, [], []⟩
def Pg.fa (p : Pg) : List He.Fa := p.Ds.map (fun d => .glo d.x) ++ p.bs.map .free
def Pg.fnD (p : Pg) : List He.DefD := p.Ds.map DS.defD
def Pg.ex (p : Pg) (K : PySem.W.Frag) : Bool := cstB (p.cs.map (·.2)) K
section
variable {P : Program} {w : World} {K : PySem.W.Frag} {mg : Str → Option Value} {base : Heap} {h : Heap} {Ca : Str → Addr}
theorem sp_len {U : FT} {g : GT} {k : Nat} {d : DS} (ef : atT U d.id = some d.F) (hn : d.F.np = d.ps.length) {vs : List V} {H : Hp} {Q : VK} {E : XK} (h : spI K Ca (callP U g (k + 1) d.id) vs H Q E) : vs.length = d.ps.length := by
  obtain ⟨G, μ, ds, ok, r, h⟩ := h
  simp only [callP, ef] at h
  by_cases hc : ds.length = d.F.np
  · rw [← r.length, hc, hn]
  · rw [if_neg hc] at h; exact h.elim
theorem start_sl {K : PySem.W.Frag} {G : Gh} {H : Hp} {ds : List D} {vs : List V} {F : Fn} {N : List Str} (r : Reps K G H ds vs) (hN : F.ns = N.length) (hle : vs.length ≤ N.length) : SlR K G H H (start F ds) (L2.start N vs) where
  len := by unfold start L2.start; simp [r.length, hN]
  val := fun i d h => by
    unfold start at h
    unfold L2.start
    by_cases hi : i < ds.length
    · rw [List.getElem?_append_left (by simpa using hi), List.getElem?_map] at h
      cases q : ds[i]? with
      | none => rw [q] at h; cases h
      | some d' =>
        rw [q] at h; cases h
        obtain ⟨v, h1, h2⟩ := r.get q
        refine ⟨v, ?_, h2⟩
        rw [List.getElem?_append_left (by simp; rw [← r.length]; exact hi), List.getElem?_map, h1]; rfl
    · rw [List.getElem?_append_right (by simpa using hi)] at h
      have := List.mem_of_getElem? h
      rw [List.mem_replicate] at this
      cases this.2
  own := fun i es h => by
    unfold start at h
    by_cases hi : i < ds.length
    · rw [List.getElem?_append_left (by simpa using hi), List.getElem?_map] at h
      cases q : ds[i]? with
      | none => rw [q] at h; cases h
      | some d' => rw [q] at h; cases h
    · rw [List.getElem?_append_right (by simpa using hi)] at h
      have := List.mem_of_getElem? h
      rw [List.mem_replicate] at this
      cases this.2
  dis := fun i j a es fs h => by
    exfalso
    unfold start at h
    by_cases hi : i < ds.length
    · rw [List.getElem?_append_left (by simpa using hi), List.getElem?_map] at h
      cases q : ds[i]? with
      | none => rw [q] at h; cases h
      | some d' => rw [q] at h; cases h
    · rw [List.getElem?_append_right (by simpa using hi)] at h
      have := List.mem_of_getElem? h
      rw [List.mem_replicate] at this
      cases this.2
theorem prog_ok {p : Pg} {U : FT} {g : GT} {n : Nat} (hU : allU U p.Ds) (hG : allG g p.cs) (hD : ∀ d ∈ p.Ds, p.okD n d = true ∧ ∃ fa fd, FunD K d.x d.x d.params d.body d.scope [] [] fa fd ∧ Binds K fd d.ps [] ∧ mg d.x = some (.ref fa) ∧ ∀ (s : Shared) (us : List Value), us.length = d.ps.length → BindsTo s fd ⟨us, []⟩ (d.ps.zip us))
    (hC : ∀ c ∈ p.cs, ∃ u v, mg c.2.1 = some u ∧ RelV v u ∧ ∀ G H, Rep K G H c.2.2 v) (hB : ∀ x ∈ p.bs, mg x = none) :
    ∀ (k : Nat), ∀ d ∈ p.Ds, ∃ fa fd, (∀ base, FnG P w K mg base (L2.CX P w) k fa fd d.ps (spI K Ca (callP U g k d.id))) ∧ mg d.x = some (.ref fa) ∧ PySem.W.keepIn K (.ref fa) = true ∧ Binds K fd d.ps [] ∧ ∀ (s : Shared) (us : List Value), us.length = d.ps.length → BindsTo s fd ⟨us, []⟩ (d.ps.zip us)
  | 0, d, e => by
    obtain ⟨_, fa, fd, F, b, m, bA⟩ := hD d e
    exact ⟨fa, fd, fun base => ⟨fun vs H Q E ⟨_, _, _, _, _, h⟩ => h.elim, fun A outer s H args us vs Q E _ _ _ _ _ ⟨_, _, _, _, _, h⟩ => h.elim⟩, m, F.kp, b, bA⟩
  | k + 1, d, e => by
    have ef := allU_mem hU e
    obtain ⟨hok, fa, fd, F, b, m, bA⟩ := hD d e
    refine ⟨fa, fd, fun base => ?_, m, F.kp, b, bA⟩
    unfold Pg.okD at hok
    simp only [Bool.and_eq_true, decide_eq_true_eq] at hok
    obtain ⟨⟨⟨h1, h2⟩, h3⟩, h4⟩ := hok
    have S := scopeB_ok h1
    refine fn_G F S (fun vs H Q E h => sp_len ef h2 h) fun cdv A outer s H vs Q E gd hr hsp => ?_
    have hlv := sp_len ef h2 hsp
    obtain ⟨G, μ, ds, ok, r, at_⟩ := hsp
    have tk : Takes (cxOf (L2.CX P w) P w K mg base d.N d.x d.scope fa cdv A outer s H E) (fun cls d _ H => E cls d H) := takes_of rfl rfl rfl rfl
    have o : CtOk k Ca (callP U g k) g (cxOf (L2.CX P w) P w K mg base d.N d.x d.scope fa cdv A outer s H E) (fun cls d _ H => E cls d H) (p.ct d) :=
      ⟨rfl, S.nd, rfl, fun _ _ => rfl, rfl, hr, gd, tk, fun x i hx => by
        obtain ⟨d', h5, h6⟩ := look_mem (f := fun d : DS => (d.x, d.id)) hx
        cases h6
        obtain ⟨fa', fd', q1, q2, q3, q4, _⟩ := prog_ok hU hG hD hC hB k d' h5
        exact ⟨fa', fd', d'.ps, q1 base, q2, q3, q4⟩, fun x i hx => by
        obtain ⟨c, h5, h6⟩ := look_mem (f := fun c : Nat × Str × D => (c.2.1, c.1)) hx
        cases h6
        obtain ⟨u, v, q1, q2, q3⟩ := hC c h5
        exact ⟨u, v, c.2.2, q1, q2, allG_mem hG h5, q3⟩, hB⟩
    refine ⟨_, chk_ok n _ _ h4 _ _ o (passes_of (K := fun e s'' => L2.CX P w outer H s E e s'') rfl), ⟨G, μ, H, G, H⟩, G, μ, start d.F ds, [], ⟨Ext.refl _ _ _, ok, start_sl r h3 ?_, fun p hp => (by cases hp), Stay.refl _ _⟩, ?_⟩
    · have := congrArg List.length S.pre
      rw [List.length_take] at this
      omega
    · simp only [callP, ef] at at_
      rw [if_pos (by rw [r.length, hlv, h2])] at at_
      unfold At M.bind noex at at_
      show AtR K Ca (fun cls d _ H => E cls d H) _ (evalSs (callP U g k) g d.F.body (start d.F ds) μ) _
      cases q : evalSs (callP U g k) g d.F.body (start d.F ds) μ with
      | none => rw [q] at at_; exact at_
      | some rr =>
        rw [q] at at_
        cases rr with
        | exc x μ1 => exact at_.elim
        | ok fl μ1 =>
          cases fl with
          | nx ρ1 => exact fun G1 σ1 H1 rl => at_ G1 .non H1 rl.ext rl.ok (by simp only [RvR, Rep])
          | ct ρ1 => exact at_.elim
          | rt rv => exact fun G1 v H1 e ok r => at_ G1 v H1 e ok r
          | ex x ρ1 => exact fun G1 σ1 H1 cls d rl ex => at_ G1 H1 cls d rl.ext rl.ok ex
end
end J
/-! a law's end. -/
namespace J
open PySem L2 PySem.Spec PyProof.Rows
section
variable {P : Program} {w : World} {K : PySem.W.Frag} {mg : Str → Option Value} {h : Heap}
theorem cst_ok {p : Pg} (X : K.In h) (G : h.Ns mainGlobals mg) (c : cstB (p.cs.map (·.2)) K = true) {q : Nat × Str × D} (e : q ∈ p.cs) : ∃ u v, mg q.2.1 = some u ∧ RelV v u ∧ ∀ G H, Rep K G H q.2.2 v := by
  have := List.all_eq_true.mp c q.2 (List.mem_map.mpr ⟨q, e, rfl⟩)
  split at this
  · rename_i u hu
    obtain ⟨v, r1, r2⟩ := repB_ok q.2.2 u this
    exact ⟨u, v, PySem.W.mg_of X G hu, r1, r2⟩
  · cases this
theorem def_ok {p : Pg} {n : Nat} (X : K.In h) (G : h.Ns mainGlobals mg) (c : He.SaysD p.fa p.fnD K) (hk : p.Ds.all (p.okD n) = true) (hb : allB p.Ds) {d : DS} (e : d ∈ p.Ds) :
    p.okD n d = true ∧ ∃ fa fd, FunD K d.x d.x d.params d.body d.scope [] [] fa fd ∧ Binds K fd d.ps [] ∧ mg d.x = some (.ref fa) ∧ ∀ (s : Shared) (us : List Value), us.length = d.ps.length → BindsTo s fd ⟨us, []⟩ (d.ps.zip us) := by
  refine ⟨List.all_eq_true.mp hk d e, ?_⟩
  have hd : d.defD ∈ p.fnD := List.mem_map.mpr ⟨d, e, rfl⟩
  obtain ⟨fd, F⟩ := c.defs hd
  have hg : He.Fa.glo d.x ∈ p.fa := List.mem_append_left _ (List.mem_map.mpr ⟨d, e, rfl⟩)
  have F : FunD K d.x d.x d.params d.body d.scope [] [] (He.ga K d.x) fd := F
  exact ⟨_, fd, F, F.bindsN (allB_mem hb e), He.glo_ok X G (c.facts hg), F.bindsA (allB_mem hb e)⟩
theorem blt_ok' {p : Pg} (X : K.In h) (G : h.Ns mainGlobals mg) (c : He.SaysD p.fa p.fnD K) : ∀ x ∈ p.bs, mg x = none := fun x hx =>
  He.free_ok X G (c.facts (List.mem_append_right _ (List.mem_map.mpr ⟨x, hx, rfl⟩)))
/-- the evaluation's answer -/
def Says (U : FT) (g : GT) (k L : Nat) (ns : List Int) : Prop := ∃ μ, callP U g k L [.src ns] [] = some (.ok (.v (.bl true)) μ)
theorem sp_law {Ca : Str → Addr} {U : FT} {g : GT} {k L : Nat} {ns : List Int} (ev : Says U g k L ns) {H : Hp} {a : Addr} (hS : SqL K H a (ns.map V.int)) {E : XK} : spI K Ca (callP U g k L) [.ref a] H (fun v _ => v = .bl true) E := by
  obtain ⟨μ, ev⟩ := ev
  have key : ∀ Fz : Addr → Prop, (∀ b, Fz b → H b ≠ none) → Rep K ⟨[], Fz⟩ H (.src ns) (.ref a) → spI K Ca (callP U g k L) [.ref a] H (fun v _ => v = .bl true) E := fun Fz hf r => by
    refine ⟨⟨[], Fz⟩, [], [.src ns], ⟨rfl, fun n m a h => by simp at h, fun n a h => by simp at h, fun b ⟨n, c, h, _⟩ => by simp at h, hf, fun n c a h => by simp at h⟩, .one r, ?_⟩
    unfold At
    rw [ev]
    exact fun G1 v H1 _ _ r => by simpa only [RvR, Rep] using r
  rcases hS with hS | hS
  · refine key (fun b => b = a) (fun b e z => ?_) (by simp only [Rep]; exact ⟨a, rfl, .inl ⟨rfl, hS⟩⟩)
    rw [e] at z
    rcases hS with hS | ⟨o, hS⟩ <;> (rw [hS] at z; cases z)
  · exact key (fun _ => False) (fun b f => f.elim) (by simp only [Rep]; exact ⟨a, rfl, .inr hS⟩)
/-- nothing is let out -/
theorem fn_nox {base : Heap} {k : Nat} {f : Addr} {fd : FuncData} {ps : List Str} {sp : Sp} (F : FnG P w K mg base (L2.CX P w) k f fd ps sp) : FnG P w K mg base L2.CX0 k f fd ps fun vs H Q _ => sp vs H Q L2.E0 :=
  ⟨fun vs H Q E h => F.ln vs H Q _ h, fun A outer s H args us vs Q E gd hr he hb hv hs => codeAny_mono (F.go A outer s H args us vs Q L2.E0 gd hr he hb hv hs) fun r s' h => by
    cases r with
    | ok fl => cases fl <;> exact h
    | error e =>
      obtain ⟨_, _, _, _, _, _, _, _, _, _, _, _, z⟩ := h
      exact z.elim⟩
theorem law_F {p : Pg} {U : FT} {g : GT} {n k i : Nat} {d : DS} {x : Str} (X : K.In h) (G : h.Ns mainGlobals mg) (c : He.SaysX p.fa p.fnD [] [] p.ex w h K) (hk : p.Ds.all (p.okD n) = true) (hU : allU U p.Ds) (hG : allG g p.cs) (hb : allB p.Ds) (e : p.Ds[i]? = some d) (hx : d.ps = [x]) {fa : Addr} (hfa : mg d.x = some (.ref fa)) (ev : ∀ ns : List Int, ns.length ≤ 63 → Says U g k d.id ns) :
    ∃ (K' : PySem.W.Frag) (fd : FuncData) (sp : Sp), K'.In h ∧ (∀ (s : Shared) (u : Value), BindsTo s fd ⟨[u], []⟩ [(x, u)]) ∧
      (∀ (H : Hp) (a : Addr) (ns : List Int), ns.length ≤ 63 → Only H → SqL K' H a (ns.map V.int) → sp [.ref a] H (fun v _ => v = .bl true) fun _ _ _ => False) ∧
      ∀ base : Heap, K'.In base → base.Ns mainGlobals mg → FnG P w K' mg base L2.CX0 k fa fd [x] sp := by
  have cd := c.t.d
  obtain ⟨fa', fd, F, m, _, _, bA⟩ := prog_ok (P := P) (w := w) (Ca := fun x => He.ga K x) hU hG (fun d e => def_ok X G cd hk hb e) (fun q e => cst_ok X G c.more e) (blt_ok' X G cd) k d (List.mem_of_getElem? e)
  rw [hfa] at m; cases m
  rw [hx] at F bA
  exact ⟨K, fd, fun vs H Q _ => spI K (fun x => He.ga K x) (callP U g k d.id) vs H Q L2.E0, X, fun s u => bA s [u] rfl, fun H a ns hl _ hS => sp_law (ev ns hl) hS, fun base _ _ => fn_nox (F base)⟩
end
end J
/-! R0: rules that run texts (what comes behind is not looked at before its time). -/
namespace J
open PySem L2
abbrev Tg {α : Type} (_ : α) : Type := Unit
abbrev XQ := Ex → Sto → Prop
def nE : XQ := fun _ _ => False
/-- m ends in Q, or by an exception in E -/
def Wq {α : Type} (m : M α) (μ : Sto) (Q : α → Sto → Prop) (E : XQ) : Prop := match m μ with
  | none => False
  | some (.ok a μ') => Q a μ'
  | some (.exc x μ') => E x μ'
/-- the same; simp does not look into it -/
def Wp {α : Type} (m : M α) (μ : Sto) (Q : α → Sto → Prop) (E : XQ) (_ : Tg (μ, Q, E) := ()) : Prop := Wq m μ Q E
section
variable {α β : Type} {m : M α} {k : α → M β} {μ : Sto} {Q Q' : α → Sto → Prop} {P : β → Sto → Prop} {E : XQ}
theorem Wp.mono {E' : XQ} (h : Wp m μ Q E) (i : ∀ a μ, Q a μ → Q' a μ) (j : ∀ x μ, E x μ → E' x μ) : Wp m μ Q' E' := by
  unfold Wp Wq at h ⊢
  split at h
  · exact h
  · exact i _ _ h
  · exact j _ _ h
theorem Wp.ok (h : Wp m μ Q nE) : ∃ a μ', m μ = some (.ok a μ') ∧ Q a μ' := by
  unfold Wp Wq at h
  split at h
  · exact h.elim
  · exact ⟨_, _, by assumption, h⟩
  · exact h.elim
theorem Wp.of {a : α} {μ' : Sto} (e : m μ = some (.ok a μ')) (q : Q a μ') : Wp m μ Q E := by unfold Wp Wq; rw [e]; exact q
theorem Wp.ofX {x : Ex} {μ' : Sto} (e : m μ = some (.exc x μ')) (q : E x μ') : Wp m μ Q E := by unfold Wp Wq; rw [e]; exact q
theorem wp_at {a : α} {μ' : Sto} (e : m μ = some (.ok a μ')) : Wp m μ Q E ↔ Q a μ' := by unfold Wp Wq; rw [e]
theorem wq_bind : Wq (M.bind m k) μ P E ↔ Wq m μ (fun a μ1 => Wq (k a) μ1 P E) E := by
  unfold Wq M.bind
  cases m μ with
  | none => exact Iff.rfl
  | some r => cases r <;> exact Iff.rfl
theorem wq_pure {a : α} : Wq (M.pure a) μ Q E ↔ Q a μ := Iff.rfl
theorem wq_some {a : α} : Wq (oM (some a)) μ Q E ↔ Q a μ := Iff.rfl
theorem wq_none : Wq (oM (none : Option α)) μ Q E ↔ False := Iff.rfl
theorem wq_stuck : Wq (stuck : M α) μ Q E ↔ False := Iff.rfl
theorem wq_noex : Wq (noex m) μ Q E ↔ Wq m μ Q nE := by
  unfold Wq noex
  cases m μ with
  | none => exact Iff.rfl
  | some r => cases r <;> exact Iff.rfl
theorem wq_o {o : Option α} : Wq (oM o) μ Q E ↔ (match o with
  | some a => Q a μ
  | none => False) := by cases o <;> exact Iff.rfl
theorem wq_ite {c : Prop} [Decidable c] {m' : M α} : Wq (if c then m else m') μ Q E ↔ if c then Wq m μ Q E else Wq m' μ Q E := by split <;> exact Iff.rfl
theorem wq_stE {ρ : Env} {k : α → M Flo} {S : Flo → Sto → Prop} : Wq (stE ρ m k) μ S nE ↔ Wq m μ (fun a μ1 => Wq (k a) μ1 S nE) (fun x μ1 => S (.ex x ρ) μ1) := by
  unfold Wq stE
  cases m μ with
  | none => exact Iff.rfl
  | some r => cases r <;> exact Iff.rfl
theorem wq_congr {m' : M α} (hm : m = m') (h : ∀ a μ1, Q a μ1 ↔ Q' a μ1) : Wq m μ Q E ↔ Wq m' μ Q' E := by
  subst hm
  unfold Wq
  split
  · exact Iff.rfl
  · exact h _ _
  · exact Iff.rfl
theorem wp_bind : Wp (M.bind m k) μ P E ↔ Wp m μ (fun a μ1 => Wp (k a) μ1 P E) E := wq_bind
theorem wp_pure {a : α} : Wp (M.pure a) μ Q E ↔ Q a μ := Iff.rfl
theorem wp_noex : Wp (noex m) μ Q E ↔ Wp m μ Q nE := wq_noex
theorem wp_q : Wp m μ Q E ↔ Wq m μ Q E := Iff.rfl
/-- an evaluation that looks at no cell and changes none -/
theorem pure_of {r : α} (h : ∀ (μ : Sto) (Q : α → Sto → Prop), Q r μ → Wp m μ Q nE) : m = M.pure r := by
  funext μ
  obtain ⟨a, μ', e, h1, h2⟩ := (h μ (fun a μ' => a = r ∧ μ' = μ) ⟨rfl, rfl⟩).ok
  rw [e, h1, h2]; rfl
theorem pure_at {r : α} (h : m = M.pure r) : Wp m μ Q E ↔ Q r μ := by rw [h]; exact wp_pure
end
/-! ### values -/
def Nv (x : RV) (k : D → Prop) (_ : Tg k := ()) : Prop := match x.val with
  | some d => k d
  | none => False
def Fr (x : RV) (k : List D → Prop) (_ : Tg k := ()) : Prop := match x with
  | .fr ds => k ds
  | _ => False
def Bn (o : BOp) (a b : D) (k : RV → Prop) (_ : Tg k := ()) : Prop := match binD o a b with
  | some r => k r
  | none => False
def Cm (o : COp) (a b : D) (k : Bool → Prop) (_ : Tg k := ()) : Prop := match cmpD o a b with
  | some r => k r
  | none => False
def Tr (a : D) (k : Bool → Prop) (_ : Tg k := ()) : Prop := match truD a with
  | some r => k r
  | none => False
def Br (b : Bool) (A B : Prop) (_ : Tg (A, B) := ()) : Prop := if b = true then A else B
def Io (a : D) (k : Int → Prop) (_ : Tg k := ()) : Prop := match intO a with
  | some r => k r
  | none => False
def Ata (ds : List D) (i : Int) (k : D → Prop) (_ : Tg k := ()) : Prop := match atI ds i with
  | some r => k r
  | none => False
def Sl (ρ : Env) (i : Nat) (s : Slot) (k : Env → Prop) (_ : Tg (ρ, s, k) := ()) : Prop := i < ρ.length ∧ k (ρ.set i s)
def Sw (ρ : Env) (i : Nat) (s : Slot) (k : Env → Prop) (_ : Tg (ρ, s, k) := ()) : Prop := k (ρ.set i s)
def Wip (ρ : Env) (vs : List Nat) (k : Env → Prop) (_ : Tg (ρ, k) := ()) : Prop := k (wipeS ρ vs)
def Bt (t : T) (d : D) (ρ : Env) (k : Env → Prop) (_ : Tg (t, ρ, k) := ()) : Prop := match bindT t d ρ with
  | some ρ1 => k ρ1
  | none => False
def Bts (ts : List T) (ds : List D) (ρ : Env) (k : Env → Prop) (_ : Tg (ts, ρ, k) := ()) : Prop := match bindTs ts ds ρ with
  | some ρ1 => k ρ1
  | none => False
def Gl (g : GT) (n : Nat) (k : D → Prop) (_ : Tg (g, k) := ()) : Prop := match atT g n with
  | some d => k d
  | none => False
/-- no more things than a list may have -/
def Sz (n : Nat) (P : Prop) (_ : Tg P := ()) : Prop := n ≤ sizeLine ∧ P
section
variable {μ : Sto} {E : XQ} {a b d : D} {ρ : Env}
theorem wq_bn {o : BOp} {K : RV → Sto → Prop} : Wq (oM (binD o a b)) μ K E ↔ Bn o a b fun v => K v μ := by unfold Bn; cases binD o a b <;> exact Iff.rfl
theorem wq_cm {o : COp} {K : Bool → Sto → Prop} : Wq (oM (cmpD o a b)) μ K E ↔ Cm o a b fun v => K v μ := by unfold Cm; cases cmpD o a b <;> exact Iff.rfl
theorem wq_tr {K : Bool → Sto → Prop} : Wq (oM (truD a)) μ K E ↔ Tr a fun v => K v μ := by unfold Tr; cases truD a <;> exact Iff.rfl
theorem wq_io {K : Int → Sto → Prop} : Wq (oM (intO a)) μ K E ↔ Io a fun v => K v μ := by unfold Io; cases intO a <;> exact Iff.rfl
theorem wq_br {α : Type} {k : Bool} {m m' : M α} {K : α → Sto → Prop} : Wq (if k = true then m else m') μ K E ↔ Br k (Wq m μ K E) (Wq m' μ K E) := by cases k <;> exact Iff.rfl
end
section
variable (C : Calls) (g : GT)
def Rs (ss : List J.S) (ρ : Env) (μ : Sto) (S : Flo → Sto → Prop) (_ : Tg (C, g, ss, ρ, μ, S) := ()) : Prop := Wq (evalSs C g ss ρ) μ S nE
def We (e : E) (ρ : Env) (μ : Sto) (Q : RV → Sto → Prop) (E : XQ) (_ : Tg (C, g, e, ρ, μ, Q, E) := ()) : Prop := Wq (evalE C g e ρ) μ Q E
def Was (es : List E) (ρ : Env) (μ : Sto) (Q : List D → Sto → Prop) (E : XQ) (_ : Tg (C, g, es, ρ, μ, Q, E) := ()) : Prop := Wq (evalEs C g es ρ) μ Q E
def Wbs (es : List E) (ρ : Env) (μ : Sto) (Q : List D → Sto → Prop) (E : XQ) (_ : Tg (C, g, es, ρ, μ, Q, E) := ()) : Prop := Wq (evalBs C g es ρ) μ Q E
def Wo (e : Option E) (ρ : Env) (μ : Sto) (Q : Option Int → Sto → Prop) (E : XQ) (_ : Tg (C, g, e, ρ, μ, Q, E) := ()) : Prop := Wq (evalO C g e ρ) μ Q E
def Wt (e : E) (ρ : Env) (μ : Sto) (P : Bool → Sto → Prop) (E : XQ) (_ : Tg (C, g, e, ρ, μ, P, E) := ()) : Prop := Wq (evalT C g e ρ) μ P E
def Wi (e : E) (ρ : Env) (μ : Sto) (P : List D → Sto → Prop) (E : XQ) (_ : Tg (C, g, e, ρ, μ, P, E) := ()) : Prop := Wq (evalW C g e ρ) μ P E
def Each (t : T) (b : List J.S) (ds : List D) (ρ : Env) (μ : Sto) (S : Flo → Sto → Prop) (_ : Tg (C, g, t, b, ρ, μ, S) := ()) : Prop := Wq (eachM (fun d ρ => M.bind (oM (bindT t d ρ)) fun ρ1 => evalSs C g b ρ1) ds ρ) μ S nE
def Whl (c : E) (b : List J.S) (ρ : Env) (μ : Sto) (S : Flo → Sto → Prop) (_ : Tg (C, g, c, b, ρ, μ, S) := ()) : Prop := Wq (evalS C g (.whl c b) ρ) μ S nE
/-- a comprehension over these things -/
def Cmp (own : List Nat) (t : T) (c : Option E) (e : E) (ds : List D) (ρ : Env) (μ : Sto) (Q : RV → Sto → Prop) (_ : Tg (C, g, own, t, c, e, ρ, μ, Q) := ()) : Prop :=
  Wq (M.bind (noex (mapItems (compF C g own t c e ρ) ds)) fun r => if r.length ≤ sizeLine ∧ ds.length ≤ sizeLine then M.pure (.fr r) else stuck) μ Q nE
/-- the next statements, then S -/
def KS (ss : List J.S) (S : Flo → Sto → Prop) (_ : Tg (C, g, ss, S)) : Flo → Sto → Prop
  | .nx ρ, μ => Rs C g ss ρ μ S
  | y, μ => S y μ
/-- the next turns, then S -/
def KE (t : T) (b : List J.S) (ds : List D) (S : Flo → Sto → Prop) (_ : Tg (C, g, t, b, ds, S)) : Flo → Sto → Prop
  | .nx ρ, μ => Each C g t b ds ρ μ S
  | .ct ρ, μ => Each C g t b ds ρ μ S
  | y, μ => S y μ
end
/-- a function's end -/
def FinQ (Q : RV → Sto → Prop) (E : XQ) (_ : Tg (Q, E)) : Flo → Sto → Prop
  | .nx _, μ => Q (.v .non) μ
  | .rt r, μ => Q r μ
  | .ct _, _ => False
  | .ex x _, μ => E x μ
def Bl (f : Blt) (ds : List D) (μ : Sto) (Q : RV → Sto → Prop) (_ : Tg (μ, Q) := ()) : Prop := Wq (bltM f ds) μ Q nE
def Ix (a i : D) (μ : Sto) (Q : RV → Sto → Prop) (_ : Tg (μ, Q) := ()) : Prop := Wq (idxM a i) μ Q nE
def Sc (a : D) (l h : Option Int) (k : RV → Prop) (_ : Tg k := ()) : Prop := match slcD a l h with
  | some r => k r
  | none => False
theorem wq_sc {a : D} {l h : Option Int} {μ : Sto} {E : XQ} {K : RV → Sto → Prop} : Wq (oM (slcD a l h)) μ K E ↔ Sc a l h fun v => K v μ := by unfold Sc; cases slcD a l h <;> exact Iff.rfl
def Mc (m : Mth) (o : D) (μ : Sto) (Q : Sto → Prop) (_ : Tg (μ, Q) := ()) : Prop := Wq (chkM m o) μ (fun _ μ1 => Q μ1) nE
def Mt (m : Mth) (o : D) (ds : List D) (μ : Sto) (Q : RV → Sto → Prop) (_ : Tg (μ, Q) := ()) : Prop := Wq (methM m o ds) μ Q nE
def Pm (ρ : Env) (o : RV) (i d : D) (μ : Sto) (S : Flo → Sto → Prop) (_ : Tg (ρ, μ, S) := ()) : Prop := Wq (putM ρ o i d) μ S nE
def Il (o : RV) (μ : Sto) (Q : Sto → Prop) (_ : Tg (μ, Q) := ()) : Prop := Wq (isLst o) μ (fun _ μ1 => Q μ1) nE
def Xm (ρ : Env) (o : RV) (ds : List D) (μ : Sto) (S : Flo → Sto → Prop) (_ : Tg (ρ, μ, S) := ()) : Prop := Wq (extM ρ o ds) μ S nE
def Im (ρ : Env) (o : RV) (i d : D) (μ : Sto) (S : Flo → Sto → Prop) (_ : Tg (ρ, μ, S) := ()) : Prop := Wq (insM ρ o i d) μ S nE
def Gm (ρ : Env) (o : RV) (f : List D → List D) (μ : Sto) (S : Flo → Sto → Prop) (_ : Tg (ρ, f, μ, S) := ()) : Prop := Wq (chgM ρ o f) μ S nE
def Nw (c : Cell) (μ : Sto) (Q : Nat → Sto → Prop) (_ : Tg (μ, Q) := ()) : Prop := Q μ.length (μ ++ [c])
section
variable {C : Calls} {g : GT} {μ : Sto} {ρ r : Env} {Q : RV → Sto → Prop} {P : Bool → Sto → Prop} {W : List D → Sto → Prop} {R : Option Int → Sto → Prop} {S : Flo → Sto → Prop} {E : XQ} {i j n : Nat} {d x : D} {ds : List D} {a b c e : J.E} {ss tt : List J.S} {es : List J.E} {k : D → Prop} {kk : RV → Prop} {kb : Bool → Prop} {ke : Env → Prop}
/-! statements -/
theorem rs_wp : Wq (evalSs C g ss ρ) μ S nE ↔ Rs C g ss ρ μ S := Iff.rfl
theorem we_wp : Wq (evalE C g e ρ) μ Q E ↔ We C g e ρ μ Q E := Iff.rfl
theorem ks_nx {ss : List J.S} {S : Flo → Sto → Prop} {t} : KS C g ss S t (.nx ρ) μ ↔ Rs C g ss ρ μ S := Iff.rfl
theorem ks_rt {ss : List J.S} {S : Flo → Sto → Prop} {t} {v : RV} : KS C g ss S t (.rt v) μ ↔ S (.rt v) μ := Iff.rfl
theorem ks_ct {ss : List J.S} {S : Flo → Sto → Prop} {t} : KS C g ss S t (.ct ρ) μ ↔ S (.ct ρ) μ := Iff.rfl
theorem ks_ex {ss : List J.S} {S : Flo → Sto → Prop} {t} {x : Ex} : KS C g ss S t (.ex x ρ) μ ↔ S (.ex x ρ) μ := Iff.rfl
theorem ke_nx {tg : T} {b : List J.S} {t} : KE C g tg b ds S t (.nx ρ) μ ↔ Each C g tg b ds ρ μ S := Iff.rfl
theorem ke_ct {tg : T} {b : List J.S} {t} : KE C g tg b ds S t (.ct ρ) μ ↔ Each C g tg b ds ρ μ S := Iff.rfl
theorem ke_rt {tg : T} {b : List J.S} {t} {v : RV} : KE C g tg b ds S t (.rt v) μ ↔ S (.rt v) μ := Iff.rfl
theorem ke_ex {tg : T} {b : List J.S} {t} {x : Ex} : KE C g tg b ds S t (.ex x ρ) μ ↔ S (.ex x ρ) μ := Iff.rfl
theorem fin_nx {t} : FinQ Q E t (.nx ρ) μ ↔ Q (.v .non) μ := Iff.rfl
theorem fin_rt {t} {v : RV} : FinQ Q E t (.rt v) μ ↔ Q v μ := Iff.rfl
theorem fin_ex {t} {x : Ex} : FinQ Q E t (.ex x ρ) μ ↔ E x μ := Iff.rfl
theorem rs_nil : Rs C g [] ρ μ S ↔ S (.nx ρ) μ := by unfold Rs; simp only [evalSs]; exact wq_pure
theorem rs_seq {s : J.S} : Rs C g (s :: ss) ρ μ S ↔ Wq (evalS C g s ρ) μ (KS C g ss S ()) nE := by
  unfold Rs
  simp only [evalSs, wq_bind]
  unfold Wq
  cases evalS C g s ρ μ with
  | none => exact Iff.rfl
  | some r =>
    cases r with
    | exc => exact Iff.rfl
    | ok f μ1 => cases f <;> exact Iff.rfl
theorem wp_nv {x : RV} {K : D → Sto → Prop} : Wq (needV x) μ K E ↔ Nv x fun d => K d μ := by
  unfold Nv needV; cases x.val <;> exact Iff.rfl
theorem wp_slot {s : Slot} {K : Env → Sto → Prop} : Wq (oM (slotO ρ i s)) μ K E ↔ Sl ρ i s fun ρ1 => K ρ1 μ := by
  unfold slotO Sl
  split
  · rename_i h; exact ⟨fun q => ⟨h, q⟩, fun q => q.2⟩
  · rename_i h; exact ⟨fun q => q.elim, fun q => h q.1⟩
theorem wp_bt {t : T} {K : Env → Sto → Prop} : Wq (oM (bindT t d ρ)) μ K E ↔ Bt t d ρ fun ρ1 => K ρ1 μ := by
  unfold Bt; cases bindT t d ρ <;> exact Iff.rfl
theorem bt_nm : Bt (.nm i) d ρ ke ↔ Sl ρ i (.val d) ke := by
  unfold Bt Sl
  simp only [bindT]
  split
  · rename_i h
    split at h
    · rename_i hi; cases h; exact ⟨fun q => ⟨hi, q⟩, fun q => q.2⟩
    · cases h
  · rename_i h
    split at h
    · cases h
    · rename_i hi; exact ⟨fun q => q.elim, fun q => hi q.1⟩
theorem bt_tp {ts : List T} : Bt (.tp ts) (.tup ds) ρ ke ↔ Bts ts ds ρ ke := by unfold Bt Bts; simp only [bindT]
theorem bts_nil : Bts [] [] ρ ke ↔ ke ρ := by unfold Bts; simp only [bindTs]
theorem bts_cons {t : T} {ts : List T} : Bts (t :: ts) (d :: ds) ρ ke ↔ Bt t d ρ fun ρ1 => Bts ts ds ρ1 ke := by
  unfold Bts Bt
  simp only [bindTs]
  cases bindT t d ρ with
  | none => exact Iff.rfl
  | some ρ1 => exact Iff.rfl
theorem wip_nil : Wip ρ [] ke ↔ ke ρ := Iff.rfl
theorem wip_cons {vs : List Nat} : Wip ρ (i :: vs) ke ↔ Wip ρ vs fun ρ1 => Sw ρ1 i .none ke := Iff.rfl
theorem rs_asg : Rs C g (.asg (.nm i) e :: ss) ρ μ S ↔ We C g e ρ μ (fun x μ1 => Nv x fun d => Sl ρ i (.val d) fun ρ1 => Rs C g ss ρ1 μ1 S) (fun x μ1 => S (.ex x ρ) μ1) := by
  rw [rs_seq]; simp only [evalS, wq_stE, wq_bind, wp_nv, wp_bt, bt_nm]; exact Iff.rfl
theorem rs_asgT {ts : List T} : Rs C g (.asg (.tp ts) e :: ss) ρ μ S ↔ We C g e ρ μ (fun x μ1 => Nv x fun d => Bt (.tp ts) d ρ fun ρ1 => Rs C g ss ρ1 μ1 S) (fun x μ1 => S (.ex x ρ) μ1) := by
  rw [rs_seq]; simp only [evalS, wq_stE, wq_bind, wp_nv, wp_bt]; exact Iff.rfl
theorem rs_own : Rs C g (.own i e :: ss) ρ μ S ↔ We C g e ρ μ (fun x μ1 => Fr x fun ds => Sl ρ i (.own ds) fun ρ1 => Rs C g ss ρ1 μ1 S) (fun x μ1 => S (.ex x ρ) μ1) := by
  rw [rs_seq]; simp only [evalS, wq_stE]
  have key : ∀ (x : RV) μ1, Wq (match x with
    | .fr ds => M.bind (oM (slotO ρ i (.own ds))) fun ρ1 => M.pure (.nx ρ1)
    | _ => stuck) μ1 (KS C g ss S ()) nE ↔ Fr x fun ds => Sl ρ i (.own ds) fun ρ1 => Rs C g ss ρ1 μ1 S := fun x μ1 => by
    cases x with
    | fr ds => simp only [wq_bind, wp_slot]; exact Iff.rfl
    | v d => exact Iff.rfl
    | bo i ds => exact Iff.rfl
  exact wq_congr rfl key
theorem was_nil : Was C g [] ρ μ W E ↔ W [] μ := by unfold Was; simp only [evalEs]; exact wq_pure
theorem was_cons : Was C g (e :: es) ρ μ W E ↔ We C g e ρ μ (fun x μ1 => Nv x fun d => Was C g es ρ μ1 (fun ds μ2 => W (d :: ds) μ2) E) E := by
  unfold Was; simp only [evalEs, wq_bind, wp_nv]; exact Iff.rfl
theorem wbs_nil : Wbs C g [] ρ μ W E ↔ W [] μ := by unfold Wbs; simp only [evalBs]; exact wq_pure
theorem wbs_cons : Wbs C g (e :: es) ρ μ W E ↔ We C g e ρ μ (fun x μ1 => Wbs C g es ρ μ1 (fun ds μ2 => W (x.d :: ds) μ2) E) E := by
  unfold Wbs; simp only [evalBs, wq_bind]; exact Iff.rfl
theorem rs_par2 : Rs C g (.par2 i j a b :: ss) ρ μ S ↔ We C g a ρ μ (fun x μ1 => Nv x fun d => We C g b ρ μ1 (fun y μ2 => Nv y fun d' => Sl ρ i (.val d) fun ρ1 => Sl ρ1 j (.val d') fun ρ2 => Rs C g ss ρ2 μ2 S) (fun x μ1 => S (.ex x ρ) μ1)) (fun x μ1 => S (.ex x ρ) μ1) := by
  rw [rs_seq]; simp only [evalS, wq_stE, evalEs, wq_bind, wp_nv, wq_pure, wp_slot]; exact Iff.rfl
theorem rs_par3 {l : Nat} : Rs C g (.par3 i j l a b c :: ss) ρ μ S ↔ We C g a ρ μ (fun x μ1 => Nv x fun d => We C g b ρ μ1 (fun y μ2 => Nv y fun d' => We C g c ρ μ2 (fun z μ3 => Nv z fun d'' => Sl ρ i (.val d) fun ρ1 => Sl ρ1 j (.val d') fun ρ2 => Sl ρ2 l (.val d'') fun ρ3 => Rs C g ss ρ3 μ3 S) (fun x μ1 => S (.ex x ρ) μ1)) (fun x μ1 => S (.ex x ρ) μ1)) (fun x μ1 => S (.ex x ρ) μ1) := by
  rw [rs_seq]; simp only [evalS, wq_stE, evalEs, wq_bind, wp_nv, wq_pure, wp_slot]; exact Iff.rfl
theorem rs_put : Rs C g (.put a b e :: ss) ρ μ S ↔ We C g e ρ μ (fun x μ1 => Nv x fun d => We C g a ρ μ1 (fun y μ2 => We C g b ρ μ2 (fun z μ3 => Pm ρ y z.d d μ3 (KS C g ss S ())) (fun x μ1 => S (.ex x ρ) μ1)) (fun x μ1 => S (.ex x ρ) μ1)) (fun x μ1 => S (.ex x ρ) μ1) := by
  rw [rs_seq]; simp only [evalS, wq_stE, wq_bind, wp_nv]; exact Iff.rfl
theorem rs_app : Rs C g (.app a e :: ss) ρ μ S ↔ We C g a ρ μ (fun y μ1 => Il y μ1 fun μ2 => We C g e ρ μ2 (fun x μ3 => Nv x fun d => Xm ρ y [d] μ3 (KS C g ss S ())) (fun x μ1 => S (.ex x ρ) μ1)) (fun x μ1 => S (.ex x ρ) μ1) := by
  rw [rs_seq]; simp only [evalS, wq_stE, wq_bind, evalEs, wp_nv, wq_pure]; exact Iff.rfl
theorem rs_ext : Rs C g (.ext a e :: ss) ρ μ S ↔ We C g a ρ μ (fun y μ1 => Il y μ1 fun μ2 => We C g e ρ μ2 (fun x μ3 => Nv x fun d => ∃ es, d = .lst es ∧ Xm ρ y es μ3 (KS C g ss S ())) (fun x μ1 => S (.ex x ρ) μ1)) (fun x μ1 => S (.ex x ρ) μ1) := by
  rw [rs_seq]; simp only [evalS, wq_stE, wq_bind, evalEs, wq_pure]
  refine wq_congr rfl fun y μ1 => wq_congr rfl fun _ μ2 => wq_congr rfl fun x μ3 => ?_
  unfold Nv needV
  cases x.val with
  | none => exact Iff.rfl
  | some d =>
    cases d with
    | lst es => exact ⟨fun h => ⟨es, rfl, h⟩, fun ⟨es', h, q⟩ => by cases h; exact q⟩
    | _ => exact ⟨fun h => h.elim, fun ⟨es', h, q⟩ => by cases h⟩
theorem ex_lst {es : List D} {K : List D → Prop} : (∃ xs, D.lst es = .lst xs ∧ K xs) ↔ K es := ⟨fun ⟨_, h, q⟩ => by cases h; exact q, fun q => ⟨_, rfl, q⟩⟩
theorem rs_ret : Rs C g (.ret e :: ss) ρ μ S ↔ We C g e ρ μ (fun x μ1 => S (.rt (rtV x)) μ1) (fun x μ1 => S (.ex x ρ) μ1) := by
  rw [rs_seq]; simp only [evalS, wq_stE, wq_pure]; exact Iff.rfl
theorem rs_ifs : Rs C g (.ifs c tt uu :: ss) ρ μ S ↔ Wt C g c ρ μ (fun k μ1 => Br k (Rs C g tt ρ μ1 (KS C g ss S ())) (Rs C g uu ρ μ1 (KS C g ss S ()))) (fun x μ1 => S (.ex x ρ) μ1) := by
  rw [rs_seq]; simp only [evalS, wq_stE, wq_br]; exact Iff.rfl
theorem rs_ins : Rs C g (.ins a b e :: ss) ρ μ S ↔ We C g a ρ μ (fun y μ1 => Il y μ1 fun μ2 => We C g b ρ μ2 (fun z μ3 => Nv z fun i => We C g e ρ μ3 (fun x μ4 => Nv x fun d => Im ρ y i d μ4 (KS C g ss S ())) (fun x μ1 => S (.ex x ρ) μ1)) (fun x μ1 => S (.ex x ρ) μ1)) (fun x μ1 => S (.ex x ρ) μ1) := by
  rw [rs_seq]; simp only [evalS, wq_stE, wq_bind, evalEs, wp_nv, wq_pure]; exact Iff.rfl
theorem rs_clr : Rs C g (.clr a :: ss) ρ μ S ↔ We C g a ρ μ (fun y μ1 => Il y μ1 fun μ2 => Gm ρ y (fun _ => []) μ2 (KS C g ss S ())) (fun x μ1 => S (.ex x ρ) μ1) := by
  rw [rs_seq]; simp only [evalS, wq_stE, wq_bind]; exact Iff.rfl
theorem rs_rvs : Rs C g (.rvs a :: ss) ρ μ S ↔ We C g a ρ μ (fun y μ1 => Il y μ1 fun μ2 => Gm ρ y List.reverse μ2 (KS C g ss S ())) (fun x μ1 => S (.ex x ρ) μ1) := by
  rw [rs_seq]; simp only [evalS, wq_stE, wq_bind]; exact Iff.rfl
theorem rs_expr : Rs C g (.expr e :: ss) ρ μ S ↔ We C g e ρ μ (fun _ μ1 => Rs C g ss ρ μ1 S) (fun x μ1 => S (.ex x ρ) μ1) := by
  rw [rs_seq]; simp only [evalS, wq_stE, wq_pure]; exact Iff.rfl
theorem rs_pass : Rs C g (.pass :: ss) ρ μ S ↔ Rs C g ss ρ μ S := by
  rw [rs_seq]; simp only [evalS, wq_pure]; exact Iff.rfl
theorem rs_cont : Rs C g (.cont :: ss) ρ μ S ↔ S (.ct ρ) μ := by
  rw [rs_seq]; simp only [evalS, wq_pure]; exact Iff.rfl
theorem rs_fors {t : T} : Rs C g (.fors t e tt :: ss) ρ μ S ↔ Wi C g e ρ μ (fun ds μ1 => Each C g t tt ds ρ μ1 (KS C g ss S ())) (fun x μ1 => S (.ex x ρ) μ1) := by
  rw [rs_seq]; simp only [evalS, wq_stE]
  unfold Wi evalW
  rw [wq_bind]
  have key : ∀ (x : RV) μ1, Wq (match x with
    | .bo _ _ => stuck
    | _ => M.bind (oM (walkD x.d)) fun ds => eachM (fun d ρ => M.bind (oM (bindT t d ρ)) fun ρ1 => evalSs C g tt ρ1) ds ρ) μ1 (KS C g ss S ()) nE ↔ Wq (match x with
    | .bo _ _ => stuck
    | _ => oM (walkD x.d)) μ1 (fun ds μ1 => Each C g t tt ds ρ μ1 (KS C g ss S ())) (fun x μ1 => S (.ex x ρ) μ1) := fun x μ1 => by
    cases x with
    | bo i ds => exact Iff.rfl
    | v d =>
      show Wq (M.bind (oM (walkD d)) _) _ _ _ ↔ Wq (oM (walkD d)) _ _ _
      cases walkD d <;> exact Iff.rfl
    | fr d => exact Iff.rfl
  exact wq_congr rfl key
theorem rs_whl : Rs C g (.whl c tt :: ss) ρ μ S ↔ Whl C g c tt ρ μ (KS C g ss S ()) := rs_seq
theorem each_nil {t : T} : Each C g t tt [] ρ μ S ↔ S (.nx ρ) μ := by unfold Each; simp only [eachM]; exact wq_pure
theorem each_cons {t : T} : Each C g t tt (d :: ds) ρ μ S ↔ Bt t d ρ fun ρ1 => Rs C g tt ρ1 μ (KE C g t tt ds S ()) := by
  unfold Each
  simp only [eachM, wq_bind, wp_bt]
  unfold Bt
  cases bindT t d ρ with
  | none => exact Iff.rfl
  | some ρ1 =>
    unfold Rs
    unfold Wq
    simp only
    cases evalSs C g tt ρ1 μ with
    | none => exact Iff.rfl
    | some r =>
      cases r with
      | exc => exact Iff.rfl
      | ok f μ1 => cases f <;> exact Iff.rfl

theorem var_0v : We C g (.var 0) (.val d :: r) μ Q E ↔ Q (.v d) μ := by unfold We; simp only [evalE]; exact Iff.rfl
theorem var_0o : We C g (.var 0) (.own ds :: r) μ Q E ↔ Q (.bo 0 ds) μ := by unfold We; simp only [evalE]; exact Iff.rfl
theorem sl_0 {a0 : Slot} {s : Slot} : Sl (a0 :: r) 0 s ke ↔ ke (s :: r) := ⟨fun h => h.2, fun h => ⟨by simp only [List.length_cons]; omega, h⟩⟩
theorem sw_0 {a0 : Slot} {s : Slot} : Sw (a0 :: r) 0 s ke ↔ ke (s :: r) := Iff.rfl
theorem shr_0 : Rs C g (.share 0 :: ss) (.own ds :: r) μ S ↔ Rs C g ss (.val (.lst ds) :: r) μ S := by rw [rs_seq]; simp only [evalS]; exact Iff.rfl
theorem var_1v {a0 : Slot} : We C g (.var 1) (a0 :: .val d :: r) μ Q E ↔ Q (.v d) μ := by unfold We; simp only [evalE]; exact Iff.rfl
theorem var_1o {a0 : Slot} : We C g (.var 1) (a0 :: .own ds :: r) μ Q E ↔ Q (.bo 1 ds) μ := by unfold We; simp only [evalE]; exact Iff.rfl
theorem sl_1 {a0 a1 : Slot} {s : Slot} : Sl (a0 :: a1 :: r) 1 s ke ↔ ke (a0 :: s :: r) := ⟨fun h => h.2, fun h => ⟨by simp only [List.length_cons]; omega, h⟩⟩
theorem sw_1 {a0 a1 : Slot} {s : Slot} : Sw (a0 :: a1 :: r) 1 s ke ↔ ke (a0 :: s :: r) := Iff.rfl
theorem shr_1 {a0 : Slot} : Rs C g (.share 1 :: ss) (a0 :: .own ds :: r) μ S ↔ Rs C g ss (a0 :: .val (.lst ds) :: r) μ S := by rw [rs_seq]; simp only [evalS]; exact Iff.rfl
theorem var_2v {a0 a1 : Slot} : We C g (.var 2) (a0 :: a1 :: .val d :: r) μ Q E ↔ Q (.v d) μ := by unfold We; simp only [evalE]; exact Iff.rfl
theorem var_2o {a0 a1 : Slot} : We C g (.var 2) (a0 :: a1 :: .own ds :: r) μ Q E ↔ Q (.bo 2 ds) μ := by unfold We; simp only [evalE]; exact Iff.rfl
theorem sl_2 {a0 a1 a2 : Slot} {s : Slot} : Sl (a0 :: a1 :: a2 :: r) 2 s ke ↔ ke (a0 :: a1 :: s :: r) := ⟨fun h => h.2, fun h => ⟨by simp only [List.length_cons]; omega, h⟩⟩
theorem sw_2 {a0 a1 a2 : Slot} {s : Slot} : Sw (a0 :: a1 :: a2 :: r) 2 s ke ↔ ke (a0 :: a1 :: s :: r) := Iff.rfl
theorem shr_2 {a0 a1 : Slot} : Rs C g (.share 2 :: ss) (a0 :: a1 :: .own ds :: r) μ S ↔ Rs C g ss (a0 :: a1 :: .val (.lst ds) :: r) μ S := by rw [rs_seq]; simp only [evalS]; exact Iff.rfl
theorem var_3v {a0 a1 a2 : Slot} : We C g (.var 3) (a0 :: a1 :: a2 :: .val d :: r) μ Q E ↔ Q (.v d) μ := by unfold We; simp only [evalE]; exact Iff.rfl
theorem var_3o {a0 a1 a2 : Slot} : We C g (.var 3) (a0 :: a1 :: a2 :: .own ds :: r) μ Q E ↔ Q (.bo 3 ds) μ := by unfold We; simp only [evalE]; exact Iff.rfl
theorem sl_3 {a0 a1 a2 a3 : Slot} {s : Slot} : Sl (a0 :: a1 :: a2 :: a3 :: r) 3 s ke ↔ ke (a0 :: a1 :: a2 :: s :: r) := ⟨fun h => h.2, fun h => ⟨by simp only [List.length_cons]; omega, h⟩⟩
theorem sw_3 {a0 a1 a2 a3 : Slot} {s : Slot} : Sw (a0 :: a1 :: a2 :: a3 :: r) 3 s ke ↔ ke (a0 :: a1 :: a2 :: s :: r) := Iff.rfl
theorem shr_3 {a0 a1 a2 : Slot} : Rs C g (.share 3 :: ss) (a0 :: a1 :: a2 :: .own ds :: r) μ S ↔ Rs C g ss (a0 :: a1 :: a2 :: .val (.lst ds) :: r) μ S := by rw [rs_seq]; simp only [evalS]; exact Iff.rfl
theorem var_4v {a0 a1 a2 a3 : Slot} : We C g (.var 4) (a0 :: a1 :: a2 :: a3 :: .val d :: r) μ Q E ↔ Q (.v d) μ := by unfold We; simp only [evalE]; exact Iff.rfl
theorem var_4o {a0 a1 a2 a3 : Slot} : We C g (.var 4) (a0 :: a1 :: a2 :: a3 :: .own ds :: r) μ Q E ↔ Q (.bo 4 ds) μ := by unfold We; simp only [evalE]; exact Iff.rfl
theorem sl_4 {a0 a1 a2 a3 a4 : Slot} {s : Slot} : Sl (a0 :: a1 :: a2 :: a3 :: a4 :: r) 4 s ke ↔ ke (a0 :: a1 :: a2 :: a3 :: s :: r) := ⟨fun h => h.2, fun h => ⟨by simp only [List.length_cons]; omega, h⟩⟩
theorem sw_4 {a0 a1 a2 a3 a4 : Slot} {s : Slot} : Sw (a0 :: a1 :: a2 :: a3 :: a4 :: r) 4 s ke ↔ ke (a0 :: a1 :: a2 :: a3 :: s :: r) := Iff.rfl
theorem shr_4 {a0 a1 a2 a3 : Slot} : Rs C g (.share 4 :: ss) (a0 :: a1 :: a2 :: a3 :: .own ds :: r) μ S ↔ Rs C g ss (a0 :: a1 :: a2 :: a3 :: .val (.lst ds) :: r) μ S := by rw [rs_seq]; simp only [evalS]; exact Iff.rfl
theorem var_5v {a0 a1 a2 a3 a4 : Slot} : We C g (.var 5) (a0 :: a1 :: a2 :: a3 :: a4 :: .val d :: r) μ Q E ↔ Q (.v d) μ := by unfold We; simp only [evalE]; exact Iff.rfl
theorem var_5o {a0 a1 a2 a3 a4 : Slot} : We C g (.var 5) (a0 :: a1 :: a2 :: a3 :: a4 :: .own ds :: r) μ Q E ↔ Q (.bo 5 ds) μ := by unfold We; simp only [evalE]; exact Iff.rfl
theorem sl_5 {a0 a1 a2 a3 a4 a5 : Slot} {s : Slot} : Sl (a0 :: a1 :: a2 :: a3 :: a4 :: a5 :: r) 5 s ke ↔ ke (a0 :: a1 :: a2 :: a3 :: a4 :: s :: r) := ⟨fun h => h.2, fun h => ⟨by simp only [List.length_cons]; omega, h⟩⟩
theorem sw_5 {a0 a1 a2 a3 a4 a5 : Slot} {s : Slot} : Sw (a0 :: a1 :: a2 :: a3 :: a4 :: a5 :: r) 5 s ke ↔ ke (a0 :: a1 :: a2 :: a3 :: a4 :: s :: r) := Iff.rfl
theorem shr_5 {a0 a1 a2 a3 a4 : Slot} : Rs C g (.share 5 :: ss) (a0 :: a1 :: a2 :: a3 :: a4 :: .own ds :: r) μ S ↔ Rs C g ss (a0 :: a1 :: a2 :: a3 :: a4 :: .val (.lst ds) :: r) μ S := by rw [rs_seq]; simp only [evalS]; exact Iff.rfl
theorem var_6v {a0 a1 a2 a3 a4 a5 : Slot} : We C g (.var 6) (a0 :: a1 :: a2 :: a3 :: a4 :: a5 :: .val d :: r) μ Q E ↔ Q (.v d) μ := by unfold We; simp only [evalE]; exact Iff.rfl
theorem var_6o {a0 a1 a2 a3 a4 a5 : Slot} : We C g (.var 6) (a0 :: a1 :: a2 :: a3 :: a4 :: a5 :: .own ds :: r) μ Q E ↔ Q (.bo 6 ds) μ := by unfold We; simp only [evalE]; exact Iff.rfl
theorem sl_6 {a0 a1 a2 a3 a4 a5 a6 : Slot} {s : Slot} : Sl (a0 :: a1 :: a2 :: a3 :: a4 :: a5 :: a6 :: r) 6 s ke ↔ ke (a0 :: a1 :: a2 :: a3 :: a4 :: a5 :: s :: r) := ⟨fun h => h.2, fun h => ⟨by simp only [List.length_cons]; omega, h⟩⟩
theorem sw_6 {a0 a1 a2 a3 a4 a5 a6 : Slot} {s : Slot} : Sw (a0 :: a1 :: a2 :: a3 :: a4 :: a5 :: a6 :: r) 6 s ke ↔ ke (a0 :: a1 :: a2 :: a3 :: a4 :: a5 :: s :: r) := Iff.rfl
theorem shr_6 {a0 a1 a2 a3 a4 a5 : Slot} : Rs C g (.share 6 :: ss) (a0 :: a1 :: a2 :: a3 :: a4 :: a5 :: .own ds :: r) μ S ↔ Rs C g ss (a0 :: a1 :: a2 :: a3 :: a4 :: a5 :: .val (.lst ds) :: r) μ S := by rw [rs_seq]; simp only [evalS]; exact Iff.rfl
theorem var_7v {a0 a1 a2 a3 a4 a5 a6 : Slot} : We C g (.var 7) (a0 :: a1 :: a2 :: a3 :: a4 :: a5 :: a6 :: .val d :: r) μ Q E ↔ Q (.v d) μ := by unfold We; simp only [evalE]; exact Iff.rfl
theorem var_7o {a0 a1 a2 a3 a4 a5 a6 : Slot} : We C g (.var 7) (a0 :: a1 :: a2 :: a3 :: a4 :: a5 :: a6 :: .own ds :: r) μ Q E ↔ Q (.bo 7 ds) μ := by unfold We; simp only [evalE]; exact Iff.rfl
theorem sl_7 {a0 a1 a2 a3 a4 a5 a6 a7 : Slot} {s : Slot} : Sl (a0 :: a1 :: a2 :: a3 :: a4 :: a5 :: a6 :: a7 :: r) 7 s ke ↔ ke (a0 :: a1 :: a2 :: a3 :: a4 :: a5 :: a6 :: s :: r) := ⟨fun h => h.2, fun h => ⟨by simp only [List.length_cons]; omega, h⟩⟩
theorem sw_7 {a0 a1 a2 a3 a4 a5 a6 a7 : Slot} {s : Slot} : Sw (a0 :: a1 :: a2 :: a3 :: a4 :: a5 :: a6 :: a7 :: r) 7 s ke ↔ ke (a0 :: a1 :: a2 :: a3 :: a4 :: a5 :: a6 :: s :: r) := Iff.rfl
theorem shr_7 {a0 a1 a2 a3 a4 a5 a6 : Slot} : Rs C g (.share 7 :: ss) (a0 :: a1 :: a2 :: a3 :: a4 :: a5 :: a6 :: .own ds :: r) μ S ↔ Rs C g ss (a0 :: a1 :: a2 :: a3 :: a4 :: a5 :: a6 :: .val (.lst ds) :: r) μ S := by rw [rs_seq]; simp only [evalS]; exact Iff.rfl
theorem var_8v {a0 a1 a2 a3 a4 a5 a6 a7 : Slot} : We C g (.var 8) (a0 :: a1 :: a2 :: a3 :: a4 :: a5 :: a6 :: a7 :: .val d :: r) μ Q E ↔ Q (.v d) μ := by unfold We; simp only [evalE]; exact Iff.rfl
theorem var_8o {a0 a1 a2 a3 a4 a5 a6 a7 : Slot} : We C g (.var 8) (a0 :: a1 :: a2 :: a3 :: a4 :: a5 :: a6 :: a7 :: .own ds :: r) μ Q E ↔ Q (.bo 8 ds) μ := by unfold We; simp only [evalE]; exact Iff.rfl
theorem sl_8 {a0 a1 a2 a3 a4 a5 a6 a7 a8 : Slot} {s : Slot} : Sl (a0 :: a1 :: a2 :: a3 :: a4 :: a5 :: a6 :: a7 :: a8 :: r) 8 s ke ↔ ke (a0 :: a1 :: a2 :: a3 :: a4 :: a5 :: a6 :: a7 :: s :: r) := ⟨fun h => h.2, fun h => ⟨by simp only [List.length_cons]; omega, h⟩⟩
theorem sw_8 {a0 a1 a2 a3 a4 a5 a6 a7 a8 : Slot} {s : Slot} : Sw (a0 :: a1 :: a2 :: a3 :: a4 :: a5 :: a6 :: a7 :: a8 :: r) 8 s ke ↔ ke (a0 :: a1 :: a2 :: a3 :: a4 :: a5 :: a6 :: a7 :: s :: r) := Iff.rfl
theorem shr_8 {a0 a1 a2 a3 a4 a5 a6 a7 : Slot} : Rs C g (.share 8 :: ss) (a0 :: a1 :: a2 :: a3 :: a4 :: a5 :: a6 :: a7 :: .own ds :: r) μ S ↔ Rs C g ss (a0 :: a1 :: a2 :: a3 :: a4 :: a5 :: a6 :: a7 :: .val (.lst ds) :: r) μ S := by rw [rs_seq]; simp only [evalS]; exact Iff.rfl
theorem var_9v {a0 a1 a2 a3 a4 a5 a6 a7 a8 : Slot} : We C g (.var 9) (a0 :: a1 :: a2 :: a3 :: a4 :: a5 :: a6 :: a7 :: a8 :: .val d :: r) μ Q E ↔ Q (.v d) μ := by unfold We; simp only [evalE]; exact Iff.rfl
theorem var_9o {a0 a1 a2 a3 a4 a5 a6 a7 a8 : Slot} : We C g (.var 9) (a0 :: a1 :: a2 :: a3 :: a4 :: a5 :: a6 :: a7 :: a8 :: .own ds :: r) μ Q E ↔ Q (.bo 9 ds) μ := by unfold We; simp only [evalE]; exact Iff.rfl
theorem sl_9 {a0 a1 a2 a3 a4 a5 a6 a7 a8 a9 : Slot} {s : Slot} : Sl (a0 :: a1 :: a2 :: a3 :: a4 :: a5 :: a6 :: a7 :: a8 :: a9 :: r) 9 s ke ↔ ke (a0 :: a1 :: a2 :: a3 :: a4 :: a5 :: a6 :: a7 :: a8 :: s :: r) := ⟨fun h => h.2, fun h => ⟨by simp only [List.length_cons]; omega, h⟩⟩
theorem sw_9 {a0 a1 a2 a3 a4 a5 a6 a7 a8 a9 : Slot} {s : Slot} : Sw (a0 :: a1 :: a2 :: a3 :: a4 :: a5 :: a6 :: a7 :: a8 :: a9 :: r) 9 s ke ↔ ke (a0 :: a1 :: a2 :: a3 :: a4 :: a5 :: a6 :: a7 :: a8 :: s :: r) := Iff.rfl
theorem shr_9 {a0 a1 a2 a3 a4 a5 a6 a7 a8 : Slot} : Rs C g (.share 9 :: ss) (a0 :: a1 :: a2 :: a3 :: a4 :: a5 :: a6 :: a7 :: a8 :: .own ds :: r) μ S ↔ Rs C g ss (a0 :: a1 :: a2 :: a3 :: a4 :: a5 :: a6 :: a7 :: a8 :: .val (.lst ds) :: r) μ S := by rw [rs_seq]; simp only [evalS]; exact Iff.rfl
theorem var_10v {a0 a1 a2 a3 a4 a5 a6 a7 a8 a9 : Slot} : We C g (.var 10) (a0 :: a1 :: a2 :: a3 :: a4 :: a5 :: a6 :: a7 :: a8 :: a9 :: .val d :: r) μ Q E ↔ Q (.v d) μ := by unfold We; simp only [evalE]; exact Iff.rfl
theorem var_10o {a0 a1 a2 a3 a4 a5 a6 a7 a8 a9 : Slot} : We C g (.var 10) (a0 :: a1 :: a2 :: a3 :: a4 :: a5 :: a6 :: a7 :: a8 :: a9 :: .own ds :: r) μ Q E ↔ Q (.bo 10 ds) μ := by unfold We; simp only [evalE]; exact Iff.rfl
theorem sl_10 {a0 a1 a2 a3 a4 a5 a6 a7 a8 a9 a10 : Slot} {s : Slot} : Sl (a0 :: a1 :: a2 :: a3 :: a4 :: a5 :: a6 :: a7 :: a8 :: a9 :: a10 :: r) 10 s ke ↔ ke (a0 :: a1 :: a2 :: a3 :: a4 :: a5 :: a6 :: a7 :: a8 :: a9 :: s :: r) := ⟨fun h => h.2, fun h => ⟨by simp only [List.length_cons]; omega, h⟩⟩
theorem sw_10 {a0 a1 a2 a3 a4 a5 a6 a7 a8 a9 a10 : Slot} {s : Slot} : Sw (a0 :: a1 :: a2 :: a3 :: a4 :: a5 :: a6 :: a7 :: a8 :: a9 :: a10 :: r) 10 s ke ↔ ke (a0 :: a1 :: a2 :: a3 :: a4 :: a5 :: a6 :: a7 :: a8 :: a9 :: s :: r) := Iff.rfl
theorem shr_10 {a0 a1 a2 a3 a4 a5 a6 a7 a8 a9 : Slot} : Rs C g (.share 10 :: ss) (a0 :: a1 :: a2 :: a3 :: a4 :: a5 :: a6 :: a7 :: a8 :: a9 :: .own ds :: r) μ S ↔ Rs C g ss (a0 :: a1 :: a2 :: a3 :: a4 :: a5 :: a6 :: a7 :: a8 :: a9 :: .val (.lst ds) :: r) μ S := by rw [rs_seq]; simp only [evalS]; exact Iff.rfl
theorem var_11v {a0 a1 a2 a3 a4 a5 a6 a7 a8 a9 a10 : Slot} : We C g (.var 11) (a0 :: a1 :: a2 :: a3 :: a4 :: a5 :: a6 :: a7 :: a8 :: a9 :: a10 :: .val d :: r) μ Q E ↔ Q (.v d) μ := by unfold We; simp only [evalE]; exact Iff.rfl
theorem var_11o {a0 a1 a2 a3 a4 a5 a6 a7 a8 a9 a10 : Slot} : We C g (.var 11) (a0 :: a1 :: a2 :: a3 :: a4 :: a5 :: a6 :: a7 :: a8 :: a9 :: a10 :: .own ds :: r) μ Q E ↔ Q (.bo 11 ds) μ := by unfold We; simp only [evalE]; exact Iff.rfl
theorem sl_11 {a0 a1 a2 a3 a4 a5 a6 a7 a8 a9 a10 a11 : Slot} {s : Slot} : Sl (a0 :: a1 :: a2 :: a3 :: a4 :: a5 :: a6 :: a7 :: a8 :: a9 :: a10 :: a11 :: r) 11 s ke ↔ ke (a0 :: a1 :: a2 :: a3 :: a4 :: a5 :: a6 :: a7 :: a8 :: a9 :: a10 :: s :: r) := ⟨fun h => h.2, fun h => ⟨by simp only [List.length_cons]; omega, h⟩⟩
theorem sw_11 {a0 a1 a2 a3 a4 a5 a6 a7 a8 a9 a10 a11 : Slot} {s : Slot} : Sw (a0 :: a1 :: a2 :: a3 :: a4 :: a5 :: a6 :: a7 :: a8 :: a9 :: a10 :: a11 :: r) 11 s ke ↔ ke (a0 :: a1 :: a2 :: a3 :: a4 :: a5 :: a6 :: a7 :: a8 :: a9 :: a10 :: s :: r) := Iff.rfl
theorem shr_11 {a0 a1 a2 a3 a4 a5 a6 a7 a8 a9 a10 : Slot} : Rs C g (.share 11 :: ss) (a0 :: a1 :: a2 :: a3 :: a4 :: a5 :: a6 :: a7 :: a8 :: a9 :: a10 :: .own ds :: r) μ S ↔ Rs C g ss (a0 :: a1 :: a2 :: a3 :: a4 :: a5 :: a6 :: a7 :: a8 :: a9 :: a10 :: .val (.lst ds) :: r) μ S := by rw [rs_seq]; simp only [evalS]; exact Iff.rfl
theorem var_12v {a0 a1 a2 a3 a4 a5 a6 a7 a8 a9 a10 a11 : Slot} : We C g (.var 12) (a0 :: a1 :: a2 :: a3 :: a4 :: a5 :: a6 :: a7 :: a8 :: a9 :: a10 :: a11 :: .val d :: r) μ Q E ↔ Q (.v d) μ := by unfold We; simp only [evalE]; exact Iff.rfl
theorem var_12o {a0 a1 a2 a3 a4 a5 a6 a7 a8 a9 a10 a11 : Slot} : We C g (.var 12) (a0 :: a1 :: a2 :: a3 :: a4 :: a5 :: a6 :: a7 :: a8 :: a9 :: a10 :: a11 :: .own ds :: r) μ Q E ↔ Q (.bo 12 ds) μ := by unfold We; simp only [evalE]; exact Iff.rfl
theorem sl_12 {a0 a1 a2 a3 a4 a5 a6 a7 a8 a9 a10 a11 a12 : Slot} {s : Slot} : Sl (a0 :: a1 :: a2 :: a3 :: a4 :: a5 :: a6 :: a7 :: a8 :: a9 :: a10 :: a11 :: a12 :: r) 12 s ke ↔ ke (a0 :: a1 :: a2 :: a3 :: a4 :: a5 :: a6 :: a7 :: a8 :: a9 :: a10 :: a11 :: s :: r) := ⟨fun h => h.2, fun h => ⟨by simp only [List.length_cons]; omega, h⟩⟩
theorem sw_12 {a0 a1 a2 a3 a4 a5 a6 a7 a8 a9 a10 a11 a12 : Slot} {s : Slot} : Sw (a0 :: a1 :: a2 :: a3 :: a4 :: a5 :: a6 :: a7 :: a8 :: a9 :: a10 :: a11 :: a12 :: r) 12 s ke ↔ ke (a0 :: a1 :: a2 :: a3 :: a4 :: a5 :: a6 :: a7 :: a8 :: a9 :: a10 :: a11 :: s :: r) := Iff.rfl
theorem shr_12 {a0 a1 a2 a3 a4 a5 a6 a7 a8 a9 a10 a11 : Slot} : Rs C g (.share 12 :: ss) (a0 :: a1 :: a2 :: a3 :: a4 :: a5 :: a6 :: a7 :: a8 :: a9 :: a10 :: a11 :: .own ds :: r) μ S ↔ Rs C g ss (a0 :: a1 :: a2 :: a3 :: a4 :: a5 :: a6 :: a7 :: a8 :: a9 :: a10 :: a11 :: .val (.lst ds) :: r) μ S := by rw [rs_seq]; simp only [evalS]; exact Iff.rfl
theorem var_13v {a0 a1 a2 a3 a4 a5 a6 a7 a8 a9 a10 a11 a12 : Slot} : We C g (.var 13) (a0 :: a1 :: a2 :: a3 :: a4 :: a5 :: a6 :: a7 :: a8 :: a9 :: a10 :: a11 :: a12 :: .val d :: r) μ Q E ↔ Q (.v d) μ := by unfold We; simp only [evalE]; exact Iff.rfl
theorem var_13o {a0 a1 a2 a3 a4 a5 a6 a7 a8 a9 a10 a11 a12 : Slot} : We C g (.var 13) (a0 :: a1 :: a2 :: a3 :: a4 :: a5 :: a6 :: a7 :: a8 :: a9 :: a10 :: a11 :: a12 :: .own ds :: r) μ Q E ↔ Q (.bo 13 ds) μ := by unfold We; simp only [evalE]; exact Iff.rfl
theorem sl_13 {a0 a1 a2 a3 a4 a5 a6 a7 a8 a9 a10 a11 a12 a13 : Slot} {s : Slot} : Sl (a0 :: a1 :: a2 :: a3 :: a4 :: a5 :: a6 :: a7 :: a8 :: a9 :: a10 :: a11 :: a12 :: a13 :: r) 13 s ke ↔ ke (a0 :: a1 :: a2 :: a3 :: a4 :: a5 :: a6 :: a7 :: a8 :: a9 :: a10 :: a11 :: a12 :: s :: r) := ⟨fun h => h.2, fun h => ⟨by simp only [List.length_cons]; omega, h⟩⟩
theorem sw_13 {a0 a1 a2 a3 a4 a5 a6 a7 a8 a9 a10 a11 a12 a13 : Slot} {s : Slot} : Sw (a0 :: a1 :: a2 :: a3 :: a4 :: a5 :: a6 :: a7 :: a8 :: a9 :: a10 :: a11 :: a12 :: a13 :: r) 13 s ke ↔ ke (a0 :: a1 :: a2 :: a3 :: a4 :: a5 :: a6 :: a7 :: a8 :: a9 :: a10 :: a11 :: a12 :: s :: r) := Iff.rfl
theorem shr_13 {a0 a1 a2 a3 a4 a5 a6 a7 a8 a9 a10 a11 a12 : Slot} : Rs C g (.share 13 :: ss) (a0 :: a1 :: a2 :: a3 :: a4 :: a5 :: a6 :: a7 :: a8 :: a9 :: a10 :: a11 :: a12 :: .own ds :: r) μ S ↔ Rs C g ss (a0 :: a1 :: a2 :: a3 :: a4 :: a5 :: a6 :: a7 :: a8 :: a9 :: a10 :: a11 :: a12 :: .val (.lst ds) :: r) μ S := by rw [rs_seq]; simp only [evalS]; exact Iff.rfl
theorem var_14v {a0 a1 a2 a3 a4 a5 a6 a7 a8 a9 a10 a11 a12 a13 : Slot} : We C g (.var 14) (a0 :: a1 :: a2 :: a3 :: a4 :: a5 :: a6 :: a7 :: a8 :: a9 :: a10 :: a11 :: a12 :: a13 :: .val d :: r) μ Q E ↔ Q (.v d) μ := by unfold We; simp only [evalE]; exact Iff.rfl
theorem var_14o {a0 a1 a2 a3 a4 a5 a6 a7 a8 a9 a10 a11 a12 a13 : Slot} : We C g (.var 14) (a0 :: a1 :: a2 :: a3 :: a4 :: a5 :: a6 :: a7 :: a8 :: a9 :: a10 :: a11 :: a12 :: a13 :: .own ds :: r) μ Q E ↔ Q (.bo 14 ds) μ := by unfold We; simp only [evalE]; exact Iff.rfl
theorem sl_14 {a0 a1 a2 a3 a4 a5 a6 a7 a8 a9 a10 a11 a12 a13 a14 : Slot} {s : Slot} : Sl (a0 :: a1 :: a2 :: a3 :: a4 :: a5 :: a6 :: a7 :: a8 :: a9 :: a10 :: a11 :: a12 :: a13 :: a14 :: r) 14 s ke ↔ ke (a0 :: a1 :: a2 :: a3 :: a4 :: a5 :: a6 :: a7 :: a8 :: a9 :: a10 :: a11 :: a12 :: a13 :: s :: r) := ⟨fun h => h.2, fun h => ⟨by simp only [List.length_cons]; omega, h⟩⟩
theorem sw_14 {a0 a1 a2 a3 a4 a5 a6 a7 a8 a9 a10 a11 a12 a13 a14 : Slot} {s : Slot} : Sw (a0 :: a1 :: a2 :: a3 :: a4 :: a5 :: a6 :: a7 :: a8 :: a9 :: a10 :: a11 :: a12 :: a13 :: a14 :: r) 14 s ke ↔ ke (a0 :: a1 :: a2 :: a3 :: a4 :: a5 :: a6 :: a7 :: a8 :: a9 :: a10 :: a11 :: a12 :: a13 :: s :: r) := Iff.rfl
theorem shr_14 {a0 a1 a2 a3 a4 a5 a6 a7 a8 a9 a10 a11 a12 a13 : Slot} : Rs C g (.share 14 :: ss) (a0 :: a1 :: a2 :: a3 :: a4 :: a5 :: a6 :: a7 :: a8 :: a9 :: a10 :: a11 :: a12 :: a13 :: .own ds :: r) μ S ↔ Rs C g ss (a0 :: a1 :: a2 :: a3 :: a4 :: a5 :: a6 :: a7 :: a8 :: a9 :: a10 :: a11 :: a12 :: a13 :: .val (.lst ds) :: r) μ S := by rw [rs_seq]; simp only [evalS]; exact Iff.rfl
theorem var_15v {a0 a1 a2 a3 a4 a5 a6 a7 a8 a9 a10 a11 a12 a13 a14 : Slot} : We C g (.var 15) (a0 :: a1 :: a2 :: a3 :: a4 :: a5 :: a6 :: a7 :: a8 :: a9 :: a10 :: a11 :: a12 :: a13 :: a14 :: .val d :: r) μ Q E ↔ Q (.v d) μ := by unfold We; simp only [evalE]; exact Iff.rfl
theorem var_15o {a0 a1 a2 a3 a4 a5 a6 a7 a8 a9 a10 a11 a12 a13 a14 : Slot} : We C g (.var 15) (a0 :: a1 :: a2 :: a3 :: a4 :: a5 :: a6 :: a7 :: a8 :: a9 :: a10 :: a11 :: a12 :: a13 :: a14 :: .own ds :: r) μ Q E ↔ Q (.bo 15 ds) μ := by unfold We; simp only [evalE]; exact Iff.rfl
theorem sl_15 {a0 a1 a2 a3 a4 a5 a6 a7 a8 a9 a10 a11 a12 a13 a14 a15 : Slot} {s : Slot} : Sl (a0 :: a1 :: a2 :: a3 :: a4 :: a5 :: a6 :: a7 :: a8 :: a9 :: a10 :: a11 :: a12 :: a13 :: a14 :: a15 :: r) 15 s ke ↔ ke (a0 :: a1 :: a2 :: a3 :: a4 :: a5 :: a6 :: a7 :: a8 :: a9 :: a10 :: a11 :: a12 :: a13 :: a14 :: s :: r) := ⟨fun h => h.2, fun h => ⟨by simp only [List.length_cons]; omega, h⟩⟩
theorem sw_15 {a0 a1 a2 a3 a4 a5 a6 a7 a8 a9 a10 a11 a12 a13 a14 a15 : Slot} {s : Slot} : Sw (a0 :: a1 :: a2 :: a3 :: a4 :: a5 :: a6 :: a7 :: a8 :: a9 :: a10 :: a11 :: a12 :: a13 :: a14 :: a15 :: r) 15 s ke ↔ ke (a0 :: a1 :: a2 :: a3 :: a4 :: a5 :: a6 :: a7 :: a8 :: a9 :: a10 :: a11 :: a12 :: a13 :: a14 :: s :: r) := Iff.rfl
theorem shr_15 {a0 a1 a2 a3 a4 a5 a6 a7 a8 a9 a10 a11 a12 a13 a14 : Slot} : Rs C g (.share 15 :: ss) (a0 :: a1 :: a2 :: a3 :: a4 :: a5 :: a6 :: a7 :: a8 :: a9 :: a10 :: a11 :: a12 :: a13 :: a14 :: .own ds :: r) μ S ↔ Rs C g ss (a0 :: a1 :: a2 :: a3 :: a4 :: a5 :: a6 :: a7 :: a8 :: a9 :: a10 :: a11 :: a12 :: a13 :: a14 :: .val (.lst ds) :: r) μ S := by rw [rs_seq]; simp only [evalS]; exact Iff.rfl
theorem var_16v {a0 a1 a2 a3 a4 a5 a6 a7 a8 a9 a10 a11 a12 a13 a14 a15 : Slot} : We C g (.var 16) (a0 :: a1 :: a2 :: a3 :: a4 :: a5 :: a6 :: a7 :: a8 :: a9 :: a10 :: a11 :: a12 :: a13 :: a14 :: a15 :: .val d :: r) μ Q E ↔ Q (.v d) μ := by unfold We; simp only [evalE]; exact Iff.rfl
theorem var_16o {a0 a1 a2 a3 a4 a5 a6 a7 a8 a9 a10 a11 a12 a13 a14 a15 : Slot} : We C g (.var 16) (a0 :: a1 :: a2 :: a3 :: a4 :: a5 :: a6 :: a7 :: a8 :: a9 :: a10 :: a11 :: a12 :: a13 :: a14 :: a15 :: .own ds :: r) μ Q E ↔ Q (.bo 16 ds) μ := by unfold We; simp only [evalE]; exact Iff.rfl
theorem sl_16 {a0 a1 a2 a3 a4 a5 a6 a7 a8 a9 a10 a11 a12 a13 a14 a15 a16 : Slot} {s : Slot} : Sl (a0 :: a1 :: a2 :: a3 :: a4 :: a5 :: a6 :: a7 :: a8 :: a9 :: a10 :: a11 :: a12 :: a13 :: a14 :: a15 :: a16 :: r) 16 s ke ↔ ke (a0 :: a1 :: a2 :: a3 :: a4 :: a5 :: a6 :: a7 :: a8 :: a9 :: a10 :: a11 :: a12 :: a13 :: a14 :: a15 :: s :: r) := ⟨fun h => h.2, fun h => ⟨by simp only [List.length_cons]; omega, h⟩⟩
theorem sw_16 {a0 a1 a2 a3 a4 a5 a6 a7 a8 a9 a10 a11 a12 a13 a14 a15 a16 : Slot} {s : Slot} : Sw (a0 :: a1 :: a2 :: a3 :: a4 :: a5 :: a6 :: a7 :: a8 :: a9 :: a10 :: a11 :: a12 :: a13 :: a14 :: a15 :: a16 :: r) 16 s ke ↔ ke (a0 :: a1 :: a2 :: a3 :: a4 :: a5 :: a6 :: a7 :: a8 :: a9 :: a10 :: a11 :: a12 :: a13 :: a14 :: a15 :: s :: r) := Iff.rfl
theorem shr_16 {a0 a1 a2 a3 a4 a5 a6 a7 a8 a9 a10 a11 a12 a13 a14 a15 : Slot} : Rs C g (.share 16 :: ss) (a0 :: a1 :: a2 :: a3 :: a4 :: a5 :: a6 :: a7 :: a8 :: a9 :: a10 :: a11 :: a12 :: a13 :: a14 :: a15 :: .own ds :: r) μ S ↔ Rs C g ss (a0 :: a1 :: a2 :: a3 :: a4 :: a5 :: a6 :: a7 :: a8 :: a9 :: a10 :: a11 :: a12 :: a13 :: a14 :: a15 :: .val (.lst ds) :: r) μ S := by rw [rs_seq]; simp only [evalS]; exact Iff.rfl
theorem var_17v {a0 a1 a2 a3 a4 a5 a6 a7 a8 a9 a10 a11 a12 a13 a14 a15 a16 : Slot} : We C g (.var 17) (a0 :: a1 :: a2 :: a3 :: a4 :: a5 :: a6 :: a7 :: a8 :: a9 :: a10 :: a11 :: a12 :: a13 :: a14 :: a15 :: a16 :: .val d :: r) μ Q E ↔ Q (.v d) μ := by unfold We; simp only [evalE]; exact Iff.rfl
theorem var_17o {a0 a1 a2 a3 a4 a5 a6 a7 a8 a9 a10 a11 a12 a13 a14 a15 a16 : Slot} : We C g (.var 17) (a0 :: a1 :: a2 :: a3 :: a4 :: a5 :: a6 :: a7 :: a8 :: a9 :: a10 :: a11 :: a12 :: a13 :: a14 :: a15 :: a16 :: .own ds :: r) μ Q E ↔ Q (.bo 17 ds) μ := by unfold We; simp only [evalE]; exact Iff.rfl
theorem sl_17 {a0 a1 a2 a3 a4 a5 a6 a7 a8 a9 a10 a11 a12 a13 a14 a15 a16 a17 : Slot} {s : Slot} : Sl (a0 :: a1 :: a2 :: a3 :: a4 :: a5 :: a6 :: a7 :: a8 :: a9 :: a10 :: a11 :: a12 :: a13 :: a14 :: a15 :: a16 :: a17 :: r) 17 s ke ↔ ke (a0 :: a1 :: a2 :: a3 :: a4 :: a5 :: a6 :: a7 :: a8 :: a9 :: a10 :: a11 :: a12 :: a13 :: a14 :: a15 :: a16 :: s :: r) := ⟨fun h => h.2, fun h => ⟨by simp only [List.length_cons]; omega, h⟩⟩
theorem sw_17 {a0 a1 a2 a3 a4 a5 a6 a7 a8 a9 a10 a11 a12 a13 a14 a15 a16 a17 : Slot} {s : Slot} : Sw (a0 :: a1 :: a2 :: a3 :: a4 :: a5 :: a6 :: a7 :: a8 :: a9 :: a10 :: a11 :: a12 :: a13 :: a14 :: a15 :: a16 :: a17 :: r) 17 s ke ↔ ke (a0 :: a1 :: a2 :: a3 :: a4 :: a5 :: a6 :: a7 :: a8 :: a9 :: a10 :: a11 :: a12 :: a13 :: a14 :: a15 :: a16 :: s :: r) := Iff.rfl
theorem shr_17 {a0 a1 a2 a3 a4 a5 a6 a7 a8 a9 a10 a11 a12 a13 a14 a15 a16 : Slot} : Rs C g (.share 17 :: ss) (a0 :: a1 :: a2 :: a3 :: a4 :: a5 :: a6 :: a7 :: a8 :: a9 :: a10 :: a11 :: a12 :: a13 :: a14 :: a15 :: a16 :: .own ds :: r) μ S ↔ Rs C g ss (a0 :: a1 :: a2 :: a3 :: a4 :: a5 :: a6 :: a7 :: a8 :: a9 :: a10 :: a11 :: a12 :: a13 :: a14 :: a15 :: a16 :: .val (.lst ds) :: r) μ S := by rw [rs_seq]; simp only [evalS]; exact Iff.rfl
theorem var_18v {a0 a1 a2 a3 a4 a5 a6 a7 a8 a9 a10 a11 a12 a13 a14 a15 a16 a17 : Slot} : We C g (.var 18) (a0 :: a1 :: a2 :: a3 :: a4 :: a5 :: a6 :: a7 :: a8 :: a9 :: a10 :: a11 :: a12 :: a13 :: a14 :: a15 :: a16 :: a17 :: .val d :: r) μ Q E ↔ Q (.v d) μ := by unfold We; simp only [evalE]; exact Iff.rfl
theorem var_18o {a0 a1 a2 a3 a4 a5 a6 a7 a8 a9 a10 a11 a12 a13 a14 a15 a16 a17 : Slot} : We C g (.var 18) (a0 :: a1 :: a2 :: a3 :: a4 :: a5 :: a6 :: a7 :: a8 :: a9 :: a10 :: a11 :: a12 :: a13 :: a14 :: a15 :: a16 :: a17 :: .own ds :: r) μ Q E ↔ Q (.bo 18 ds) μ := by unfold We; simp only [evalE]; exact Iff.rfl
theorem sl_18 {a0 a1 a2 a3 a4 a5 a6 a7 a8 a9 a10 a11 a12 a13 a14 a15 a16 a17 a18 : Slot} {s : Slot} : Sl (a0 :: a1 :: a2 :: a3 :: a4 :: a5 :: a6 :: a7 :: a8 :: a9 :: a10 :: a11 :: a12 :: a13 :: a14 :: a15 :: a16 :: a17 :: a18 :: r) 18 s ke ↔ ke (a0 :: a1 :: a2 :: a3 :: a4 :: a5 :: a6 :: a7 :: a8 :: a9 :: a10 :: a11 :: a12 :: a13 :: a14 :: a15 :: a16 :: a17 :: s :: r) := ⟨fun h => h.2, fun h => ⟨by simp only [List.length_cons]; omega, h⟩⟩
theorem sw_18 {a0 a1 a2 a3 a4 a5 a6 a7 a8 a9 a10 a11 a12 a13 a14 a15 a16 a17 a18 : Slot} {s : Slot} : Sw (a0 :: a1 :: a2 :: a3 :: a4 :: a5 :: a6 :: a7 :: a8 :: a9 :: a10 :: a11 :: a12 :: a13 :: a14 :: a15 :: a16 :: a17 :: a18 :: r) 18 s ke ↔ ke (a0 :: a1 :: a2 :: a3 :: a4 :: a5 :: a6 :: a7 :: a8 :: a9 :: a10 :: a11 :: a12 :: a13 :: a14 :: a15 :: a16 :: a17 :: s :: r) := Iff.rfl
theorem shr_18 {a0 a1 a2 a3 a4 a5 a6 a7 a8 a9 a10 a11 a12 a13 a14 a15 a16 a17 : Slot} : Rs C g (.share 18 :: ss) (a0 :: a1 :: a2 :: a3 :: a4 :: a5 :: a6 :: a7 :: a8 :: a9 :: a10 :: a11 :: a12 :: a13 :: a14 :: a15 :: a16 :: a17 :: .own ds :: r) μ S ↔ Rs C g ss (a0 :: a1 :: a2 :: a3 :: a4 :: a5 :: a6 :: a7 :: a8 :: a9 :: a10 :: a11 :: a12 :: a13 :: a14 :: a15 :: a16 :: a17 :: .val (.lst ds) :: r) μ S := by rw [rs_seq]; simp only [evalS]; exact Iff.rfl
theorem var_19v {a0 a1 a2 a3 a4 a5 a6 a7 a8 a9 a10 a11 a12 a13 a14 a15 a16 a17 a18 : Slot} : We C g (.var 19) (a0 :: a1 :: a2 :: a3 :: a4 :: a5 :: a6 :: a7 :: a8 :: a9 :: a10 :: a11 :: a12 :: a13 :: a14 :: a15 :: a16 :: a17 :: a18 :: .val d :: r) μ Q E ↔ Q (.v d) μ := by unfold We; simp only [evalE]; exact Iff.rfl
theorem var_19o {a0 a1 a2 a3 a4 a5 a6 a7 a8 a9 a10 a11 a12 a13 a14 a15 a16 a17 a18 : Slot} : We C g (.var 19) (a0 :: a1 :: a2 :: a3 :: a4 :: a5 :: a6 :: a7 :: a8 :: a9 :: a10 :: a11 :: a12 :: a13 :: a14 :: a15 :: a16 :: a17 :: a18 :: .own ds :: r) μ Q E ↔ Q (.bo 19 ds) μ := by unfold We; simp only [evalE]; exact Iff.rfl
theorem sl_19 {a0 a1 a2 a3 a4 a5 a6 a7 a8 a9 a10 a11 a12 a13 a14 a15 a16 a17 a18 a19 : Slot} {s : Slot} : Sl (a0 :: a1 :: a2 :: a3 :: a4 :: a5 :: a6 :: a7 :: a8 :: a9 :: a10 :: a11 :: a12 :: a13 :: a14 :: a15 :: a16 :: a17 :: a18 :: a19 :: r) 19 s ke ↔ ke (a0 :: a1 :: a2 :: a3 :: a4 :: a5 :: a6 :: a7 :: a8 :: a9 :: a10 :: a11 :: a12 :: a13 :: a14 :: a15 :: a16 :: a17 :: a18 :: s :: r) := ⟨fun h => h.2, fun h => ⟨by simp only [List.length_cons]; omega, h⟩⟩
theorem sw_19 {a0 a1 a2 a3 a4 a5 a6 a7 a8 a9 a10 a11 a12 a13 a14 a15 a16 a17 a18 a19 : Slot} {s : Slot} : Sw (a0 :: a1 :: a2 :: a3 :: a4 :: a5 :: a6 :: a7 :: a8 :: a9 :: a10 :: a11 :: a12 :: a13 :: a14 :: a15 :: a16 :: a17 :: a18 :: a19 :: r) 19 s ke ↔ ke (a0 :: a1 :: a2 :: a3 :: a4 :: a5 :: a6 :: a7 :: a8 :: a9 :: a10 :: a11 :: a12 :: a13 :: a14 :: a15 :: a16 :: a17 :: a18 :: s :: r) := Iff.rfl
theorem shr_19 {a0 a1 a2 a3 a4 a5 a6 a7 a8 a9 a10 a11 a12 a13 a14 a15 a16 a17 a18 : Slot} : Rs C g (.share 19 :: ss) (a0 :: a1 :: a2 :: a3 :: a4 :: a5 :: a6 :: a7 :: a8 :: a9 :: a10 :: a11 :: a12 :: a13 :: a14 :: a15 :: a16 :: a17 :: a18 :: .own ds :: r) μ S ↔ Rs C g ss (a0 :: a1 :: a2 :: a3 :: a4 :: a5 :: a6 :: a7 :: a8 :: a9 :: a10 :: a11 :: a12 :: a13 :: a14 :: a15 :: a16 :: a17 :: a18 :: .val (.lst ds) :: r) μ S := by rw [rs_seq]; simp only [evalS]; exact Iff.rfl
theorem var_20v {a0 a1 a2 a3 a4 a5 a6 a7 a8 a9 a10 a11 a12 a13 a14 a15 a16 a17 a18 a19 : Slot} : We C g (.var 20) (a0 :: a1 :: a2 :: a3 :: a4 :: a5 :: a6 :: a7 :: a8 :: a9 :: a10 :: a11 :: a12 :: a13 :: a14 :: a15 :: a16 :: a17 :: a18 :: a19 :: .val d :: r) μ Q E ↔ Q (.v d) μ := by unfold We; simp only [evalE]; exact Iff.rfl
theorem var_20o {a0 a1 a2 a3 a4 a5 a6 a7 a8 a9 a10 a11 a12 a13 a14 a15 a16 a17 a18 a19 : Slot} : We C g (.var 20) (a0 :: a1 :: a2 :: a3 :: a4 :: a5 :: a6 :: a7 :: a8 :: a9 :: a10 :: a11 :: a12 :: a13 :: a14 :: a15 :: a16 :: a17 :: a18 :: a19 :: .own ds :: r) μ Q E ↔ Q (.bo 20 ds) μ := by unfold We; simp only [evalE]; exact Iff.rfl
theorem sl_20 {a0 a1 a2 a3 a4 a5 a6 a7 a8 a9 a10 a11 a12 a13 a14 a15 a16 a17 a18 a19 a20 : Slot} {s : Slot} : Sl (a0 :: a1 :: a2 :: a3 :: a4 :: a5 :: a6 :: a7 :: a8 :: a9 :: a10 :: a11 :: a12 :: a13 :: a14 :: a15 :: a16 :: a17 :: a18 :: a19 :: a20 :: r) 20 s ke ↔ ke (a0 :: a1 :: a2 :: a3 :: a4 :: a5 :: a6 :: a7 :: a8 :: a9 :: a10 :: a11 :: a12 :: a13 :: a14 :: a15 :: a16 :: a17 :: a18 :: a19 :: s :: r) := ⟨fun h => h.2, fun h => ⟨by simp only [List.length_cons]; omega, h⟩⟩
theorem sw_20 {a0 a1 a2 a3 a4 a5 a6 a7 a8 a9 a10 a11 a12 a13 a14 a15 a16 a17 a18 a19 a20 : Slot} {s : Slot} : Sw (a0 :: a1 :: a2 :: a3 :: a4 :: a5 :: a6 :: a7 :: a8 :: a9 :: a10 :: a11 :: a12 :: a13 :: a14 :: a15 :: a16 :: a17 :: a18 :: a19 :: a20 :: r) 20 s ke ↔ ke (a0 :: a1 :: a2 :: a3 :: a4 :: a5 :: a6 :: a7 :: a8 :: a9 :: a10 :: a11 :: a12 :: a13 :: a14 :: a15 :: a16 :: a17 :: a18 :: a19 :: s :: r) := Iff.rfl
theorem shr_20 {a0 a1 a2 a3 a4 a5 a6 a7 a8 a9 a10 a11 a12 a13 a14 a15 a16 a17 a18 a19 : Slot} : Rs C g (.share 20 :: ss) (a0 :: a1 :: a2 :: a3 :: a4 :: a5 :: a6 :: a7 :: a8 :: a9 :: a10 :: a11 :: a12 :: a13 :: a14 :: a15 :: a16 :: a17 :: a18 :: a19 :: .own ds :: r) μ S ↔ Rs C g ss (a0 :: a1 :: a2 :: a3 :: a4 :: a5 :: a6 :: a7 :: a8 :: a9 :: a10 :: a11 :: a12 :: a13 :: a14 :: a15 :: a16 :: a17 :: a18 :: a19 :: .val (.lst ds) :: r) μ S := by rw [rs_seq]; simp only [evalS]; exact Iff.rfl
theorem var_21v {a0 a1 a2 a3 a4 a5 a6 a7 a8 a9 a10 a11 a12 a13 a14 a15 a16 a17 a18 a19 a20 : Slot} : We C g (.var 21) (a0 :: a1 :: a2 :: a3 :: a4 :: a5 :: a6 :: a7 :: a8 :: a9 :: a10 :: a11 :: a12 :: a13 :: a14 :: a15 :: a16 :: a17 :: a18 :: a19 :: a20 :: .val d :: r) μ Q E ↔ Q (.v d) μ := by unfold We; simp only [evalE]; exact Iff.rfl
theorem var_21o {a0 a1 a2 a3 a4 a5 a6 a7 a8 a9 a10 a11 a12 a13 a14 a15 a16 a17 a18 a19 a20 : Slot} : We C g (.var 21) (a0 :: a1 :: a2 :: a3 :: a4 :: a5 :: a6 :: a7 :: a8 :: a9 :: a10 :: a11 :: a12 :: a13 :: a14 :: a15 :: a16 :: a17 :: a18 :: a19 :: a20 :: .own ds :: r) μ Q E ↔ Q (.bo 21 ds) μ := by unfold We; simp only [evalE]; exact Iff.rfl
theorem sl_21 {a0 a1 a2 a3 a4 a5 a6 a7 a8 a9 a10 a11 a12 a13 a14 a15 a16 a17 a18 a19 a20 a21 : Slot} {s : Slot} : Sl (a0 :: a1 :: a2 :: a3 :: a4 :: a5 :: a6 :: a7 :: a8 :: a9 :: a10 :: a11 :: a12 :: a13 :: a14 :: a15 :: a16 :: a17 :: a18 :: a19 :: a20 :: a21 :: r) 21 s ke ↔ ke (a0 :: a1 :: a2 :: a3 :: a4 :: a5 :: a6 :: a7 :: a8 :: a9 :: a10 :: a11 :: a12 :: a13 :: a14 :: a15 :: a16 :: a17 :: a18 :: a19 :: a20 :: s :: r) := ⟨fun h => h.2, fun h => ⟨by simp only [List.length_cons]; omega, h⟩⟩
theorem sw_21 {a0 a1 a2 a3 a4 a5 a6 a7 a8 a9 a10 a11 a12 a13 a14 a15 a16 a17 a18 a19 a20 a21 : Slot} {s : Slot} : Sw (a0 :: a1 :: a2 :: a3 :: a4 :: a5 :: a6 :: a7 :: a8 :: a9 :: a10 :: a11 :: a12 :: a13 :: a14 :: a15 :: a16 :: a17 :: a18 :: a19 :: a20 :: a21 :: r) 21 s ke ↔ ke (a0 :: a1 :: a2 :: a3 :: a4 :: a5 :: a6 :: a7 :: a8 :: a9 :: a10 :: a11 :: a12 :: a13 :: a14 :: a15 :: a16 :: a17 :: a18 :: a19 :: a20 :: s :: r) := Iff.rfl
theorem shr_21 {a0 a1 a2 a3 a4 a5 a6 a7 a8 a9 a10 a11 a12 a13 a14 a15 a16 a17 a18 a19 a20 : Slot} : Rs C g (.share 21 :: ss) (a0 :: a1 :: a2 :: a3 :: a4 :: a5 :: a6 :: a7 :: a8 :: a9 :: a10 :: a11 :: a12 :: a13 :: a14 :: a15 :: a16 :: a17 :: a18 :: a19 :: a20 :: .own ds :: r) μ S ↔ Rs C g ss (a0 :: a1 :: a2 :: a3 :: a4 :: a5 :: a6 :: a7 :: a8 :: a9 :: a10 :: a11 :: a12 :: a13 :: a14 :: a15 :: a16 :: a17 :: a18 :: a19 :: a20 :: .val (.lst ds) :: r) μ S := by rw [rs_seq]; simp only [evalS]; exact Iff.rfl
theorem var_22v {a0 a1 a2 a3 a4 a5 a6 a7 a8 a9 a10 a11 a12 a13 a14 a15 a16 a17 a18 a19 a20 a21 : Slot} : We C g (.var 22) (a0 :: a1 :: a2 :: a3 :: a4 :: a5 :: a6 :: a7 :: a8 :: a9 :: a10 :: a11 :: a12 :: a13 :: a14 :: a15 :: a16 :: a17 :: a18 :: a19 :: a20 :: a21 :: .val d :: r) μ Q E ↔ Q (.v d) μ := by unfold We; simp only [evalE]; exact Iff.rfl
theorem var_22o {a0 a1 a2 a3 a4 a5 a6 a7 a8 a9 a10 a11 a12 a13 a14 a15 a16 a17 a18 a19 a20 a21 : Slot} : We C g (.var 22) (a0 :: a1 :: a2 :: a3 :: a4 :: a5 :: a6 :: a7 :: a8 :: a9 :: a10 :: a11 :: a12 :: a13 :: a14 :: a15 :: a16 :: a17 :: a18 :: a19 :: a20 :: a21 :: .own ds :: r) μ Q E ↔ Q (.bo 22 ds) μ := by unfold We; simp only [evalE]; exact Iff.rfl
theorem sl_22 {a0 a1 a2 a3 a4 a5 a6 a7 a8 a9 a10 a11 a12 a13 a14 a15 a16 a17 a18 a19 a20 a21 a22 : Slot} {s : Slot} : Sl (a0 :: a1 :: a2 :: a3 :: a4 :: a5 :: a6 :: a7 :: a8 :: a9 :: a10 :: a11 :: a12 :: a13 :: a14 :: a15 :: a16 :: a17 :: a18 :: a19 :: a20 :: a21 :: a22 :: r) 22 s ke ↔ ke (a0 :: a1 :: a2 :: a3 :: a4 :: a5 :: a6 :: a7 :: a8 :: a9 :: a10 :: a11 :: a12 :: a13 :: a14 :: a15 :: a16 :: a17 :: a18 :: a19 :: a20 :: a21 :: s :: r) := ⟨fun h => h.2, fun h => ⟨by simp only [List.length_cons]; omega, h⟩⟩
theorem sw_22 {a0 a1 a2 a3 a4 a5 a6 a7 a8 a9 a10 a11 a12 a13 a14 a15 a16 a17 a18 a19 a20 a21 a22 : Slot} {s : Slot} : Sw (a0 :: a1 :: a2 :: a3 :: a4 :: a5 :: a6 :: a7 :: a8 :: a9 :: a10 :: a11 :: a12 :: a13 :: a14 :: a15 :: a16 :: a17 :: a18 :: a19 :: a20 :: a21 :: a22 :: r) 22 s ke ↔ ke (a0 :: a1 :: a2 :: a3 :: a4 :: a5 :: a6 :: a7 :: a8 :: a9 :: a10 :: a11 :: a12 :: a13 :: a14 :: a15 :: a16 :: a17 :: a18 :: a19 :: a20 :: a21 :: s :: r) := Iff.rfl
theorem shr_22 {a0 a1 a2 a3 a4 a5 a6 a7 a8 a9 a10 a11 a12 a13 a14 a15 a16 a17 a18 a19 a20 a21 : Slot} : Rs C g (.share 22 :: ss) (a0 :: a1 :: a2 :: a3 :: a4 :: a5 :: a6 :: a7 :: a8 :: a9 :: a10 :: a11 :: a12 :: a13 :: a14 :: a15 :: a16 :: a17 :: a18 :: a19 :: a20 :: a21 :: .own ds :: r) μ S ↔ Rs C g ss (a0 :: a1 :: a2 :: a3 :: a4 :: a5 :: a6 :: a7 :: a8 :: a9 :: a10 :: a11 :: a12 :: a13 :: a14 :: a15 :: a16 :: a17 :: a18 :: a19 :: a20 :: a21 :: .val (.lst ds) :: r) μ S := by rw [rs_seq]; simp only [evalS]; exact Iff.rfl
theorem var_23v {a0 a1 a2 a3 a4 a5 a6 a7 a8 a9 a10 a11 a12 a13 a14 a15 a16 a17 a18 a19 a20 a21 a22 : Slot} : We C g (.var 23) (a0 :: a1 :: a2 :: a3 :: a4 :: a5 :: a6 :: a7 :: a8 :: a9 :: a10 :: a11 :: a12 :: a13 :: a14 :: a15 :: a16 :: a17 :: a18 :: a19 :: a20 :: a21 :: a22 :: .val d :: r) μ Q E ↔ Q (.v d) μ := by unfold We; simp only [evalE]; exact Iff.rfl
theorem var_23o {a0 a1 a2 a3 a4 a5 a6 a7 a8 a9 a10 a11 a12 a13 a14 a15 a16 a17 a18 a19 a20 a21 a22 : Slot} : We C g (.var 23) (a0 :: a1 :: a2 :: a3 :: a4 :: a5 :: a6 :: a7 :: a8 :: a9 :: a10 :: a11 :: a12 :: a13 :: a14 :: a15 :: a16 :: a17 :: a18 :: a19 :: a20 :: a21 :: a22 :: .own ds :: r) μ Q E ↔ Q (.bo 23 ds) μ := by unfold We; simp only [evalE]; exact Iff.rfl
theorem sl_23 {a0 a1 a2 a3 a4 a5 a6 a7 a8 a9 a10 a11 a12 a13 a14 a15 a16 a17 a18 a19 a20 a21 a22 a23 : Slot} {s : Slot} : Sl (a0 :: a1 :: a2 :: a3 :: a4 :: a5 :: a6 :: a7 :: a8 :: a9 :: a10 :: a11 :: a12 :: a13 :: a14 :: a15 :: a16 :: a17 :: a18 :: a19 :: a20 :: a21 :: a22 :: a23 :: r) 23 s ke ↔ ke (a0 :: a1 :: a2 :: a3 :: a4 :: a5 :: a6 :: a7 :: a8 :: a9 :: a10 :: a11 :: a12 :: a13 :: a14 :: a15 :: a16 :: a17 :: a18 :: a19 :: a20 :: a21 :: a22 :: s :: r) := ⟨fun h => h.2, fun h => ⟨by simp only [List.length_cons]; omega, h⟩⟩
theorem sw_23 {a0 a1 a2 a3 a4 a5 a6 a7 a8 a9 a10 a11 a12 a13 a14 a15 a16 a17 a18 a19 a20 a21 a22 a23 : Slot} {s : Slot} : Sw (a0 :: a1 :: a2 :: a3 :: a4 :: a5 :: a6 :: a7 :: a8 :: a9 :: a10 :: a11 :: a12 :: a13 :: a14 :: a15 :: a16 :: a17 :: a18 :: a19 :: a20 :: a21 :: a22 :: a23 :: r) 23 s ke ↔ ke (a0 :: a1 :: a2 :: a3 :: a4 :: a5 :: a6 :: a7 :: a8 :: a9 :: a10 :: a11 :: a12 :: a13 :: a14 :: a15 :: a16 :: a17 :: a18 :: a19 :: a20 :: a21 :: a22 :: s :: r) := Iff.rfl
theorem shr_23 {a0 a1 a2 a3 a4 a5 a6 a7 a8 a9 a10 a11 a12 a13 a14 a15 a16 a17 a18 a19 a20 a21 a22 : Slot} : Rs C g (.share 23 :: ss) (a0 :: a1 :: a2 :: a3 :: a4 :: a5 :: a6 :: a7 :: a8 :: a9 :: a10 :: a11 :: a12 :: a13 :: a14 :: a15 :: a16 :: a17 :: a18 :: a19 :: a20 :: a21 :: a22 :: .own ds :: r) μ S ↔ Rs C g ss (a0 :: a1 :: a2 :: a3 :: a4 :: a5 :: a6 :: a7 :: a8 :: a9 :: a10 :: a11 :: a12 :: a13 :: a14 :: a15 :: a16 :: a17 :: a18 :: a19 :: a20 :: a21 :: a22 :: .val (.lst ds) :: r) μ S := by rw [rs_seq]; simp only [evalS]; exact Iff.rfl
theorem var_24v {a0 a1 a2 a3 a4 a5 a6 a7 a8 a9 a10 a11 a12 a13 a14 a15 a16 a17 a18 a19 a20 a21 a22 a23 : Slot} : We C g (.var 24) (a0 :: a1 :: a2 :: a3 :: a4 :: a5 :: a6 :: a7 :: a8 :: a9 :: a10 :: a11 :: a12 :: a13 :: a14 :: a15 :: a16 :: a17 :: a18 :: a19 :: a20 :: a21 :: a22 :: a23 :: .val d :: r) μ Q E ↔ Q (.v d) μ := by unfold We; simp only [evalE]; exact Iff.rfl
theorem var_24o {a0 a1 a2 a3 a4 a5 a6 a7 a8 a9 a10 a11 a12 a13 a14 a15 a16 a17 a18 a19 a20 a21 a22 a23 : Slot} : We C g (.var 24) (a0 :: a1 :: a2 :: a3 :: a4 :: a5 :: a6 :: a7 :: a8 :: a9 :: a10 :: a11 :: a12 :: a13 :: a14 :: a15 :: a16 :: a17 :: a18 :: a19 :: a20 :: a21 :: a22 :: a23 :: .own ds :: r) μ Q E ↔ Q (.bo 24 ds) μ := by unfold We; simp only [evalE]; exact Iff.rfl
theorem sl_24 {a0 a1 a2 a3 a4 a5 a6 a7 a8 a9 a10 a11 a12 a13 a14 a15 a16 a17 a18 a19 a20 a21 a22 a23 a24 : Slot} {s : Slot} : Sl (a0 :: a1 :: a2 :: a3 :: a4 :: a5 :: a6 :: a7 :: a8 :: a9 :: a10 :: a11 :: a12 :: a13 :: a14 :: a15 :: a16 :: a17 :: a18 :: a19 :: a20 :: a21 :: a22 :: a23 :: a24 :: r) 24 s ke ↔ ke (a0 :: a1 :: a2 :: a3 :: a4 :: a5 :: a6 :: a7 :: a8 :: a9 :: a10 :: a11 :: a12 :: a13 :: a14 :: a15 :: a16 :: a17 :: a18 :: a19 :: a20 :: a21 :: a22 :: a23 :: s :: r) := ⟨fun h => h.2, fun h => ⟨by simp only [List.length_cons]; omega, h⟩⟩
theorem sw_24 {a0 a1 a2 a3 a4 a5 a6 a7 a8 a9 a10 a11 a12 a13 a14 a15 a16 a17 a18 a19 a20 a21 a22 a23 a24 : Slot} {s : Slot} : Sw (a0 :: a1 :: a2 :: a3 :: a4 :: a5 :: a6 :: a7 :: a8 :: a9 :: a10 :: a11 :: a12 :: a13 :: a14 :: a15 :: a16 :: a17 :: a18 :: a19 :: a20 :: a21 :: a22 :: a23 :: a24 :: r) 24 s ke ↔ ke (a0 :: a1 :: a2 :: a3 :: a4 :: a5 :: a6 :: a7 :: a8 :: a9 :: a10 :: a11 :: a12 :: a13 :: a14 :: a15 :: a16 :: a17 :: a18 :: a19 :: a20 :: a21 :: a22 :: a23 :: s :: r) := Iff.rfl
theorem shr_24 {a0 a1 a2 a3 a4 a5 a6 a7 a8 a9 a10 a11 a12 a13 a14 a15 a16 a17 a18 a19 a20 a21 a22 a23 : Slot} : Rs C g (.share 24 :: ss) (a0 :: a1 :: a2 :: a3 :: a4 :: a5 :: a6 :: a7 :: a8 :: a9 :: a10 :: a11 :: a12 :: a13 :: a14 :: a15 :: a16 :: a17 :: a18 :: a19 :: a20 :: a21 :: a22 :: a23 :: .own ds :: r) μ S ↔ Rs C g ss (a0 :: a1 :: a2 :: a3 :: a4 :: a5 :: a6 :: a7 :: a8 :: a9 :: a10 :: a11 :: a12 :: a13 :: a14 :: a15 :: a16 :: a17 :: a18 :: a19 :: a20 :: a21 :: a22 :: a23 :: .val (.lst ds) :: r) μ S := by rw [rs_seq]; simp only [evalS]; exact Iff.rfl
theorem var_25v {a0 a1 a2 a3 a4 a5 a6 a7 a8 a9 a10 a11 a12 a13 a14 a15 a16 a17 a18 a19 a20 a21 a22 a23 a24 : Slot} : We C g (.var 25) (a0 :: a1 :: a2 :: a3 :: a4 :: a5 :: a6 :: a7 :: a8 :: a9 :: a10 :: a11 :: a12 :: a13 :: a14 :: a15 :: a16 :: a17 :: a18 :: a19 :: a20 :: a21 :: a22 :: a23 :: a24 :: .val d :: r) μ Q E ↔ Q (.v d) μ := by unfold We; simp only [evalE]; exact Iff.rfl
theorem var_25o {a0 a1 a2 a3 a4 a5 a6 a7 a8 a9 a10 a11 a12 a13 a14 a15 a16 a17 a18 a19 a20 a21 a22 a23 a24 : Slot} : We C g (.var 25) (a0 :: a1 :: a2 :: a3 :: a4 :: a5 :: a6 :: a7 :: a8 :: a9 :: a10 :: a11 :: a12 :: a13 :: a14 :: a15 :: a16 :: a17 :: a18 :: a19 :: a20 :: a21 :: a22 :: a23 :: a24 :: .own ds :: r) μ Q E ↔ Q (.bo 25 ds) μ := by unfold We; simp only [evalE]; exact Iff.rfl
theorem sl_25 {a0 a1 a2 a3 a4 a5 a6 a7 a8 a9 a10 a11 a12 a13 a14 a15 a16 a17 a18 a19 a20 a21 a22 a23 a24 a25 : Slot} {s : Slot} : Sl (a0 :: a1 :: a2 :: a3 :: a4 :: a5 :: a6 :: a7 :: a8 :: a9 :: a10 :: a11 :: a12 :: a13 :: a14 :: a15 :: a16 :: a17 :: a18 :: a19 :: a20 :: a21 :: a22 :: a23 :: a24 :: a25 :: r) 25 s ke ↔ ke (a0 :: a1 :: a2 :: a3 :: a4 :: a5 :: a6 :: a7 :: a8 :: a9 :: a10 :: a11 :: a12 :: a13 :: a14 :: a15 :: a16 :: a17 :: a18 :: a19 :: a20 :: a21 :: a22 :: a23 :: a24 :: s :: r) := ⟨fun h => h.2, fun h => ⟨by simp only [List.length_cons]; omega, h⟩⟩
theorem sw_25 {a0 a1 a2 a3 a4 a5 a6 a7 a8 a9 a10 a11 a12 a13 a14 a15 a16 a17 a18 a19 a20 a21 a22 a23 a24 a25 : Slot} {s : Slot} : Sw (a0 :: a1 :: a2 :: a3 :: a4 :: a5 :: a6 :: a7 :: a8 :: a9 :: a10 :: a11 :: a12 :: a13 :: a14 :: a15 :: a16 :: a17 :: a18 :: a19 :: a20 :: a21 :: a22 :: a23 :: a24 :: a25 :: r) 25 s ke ↔ ke (a0 :: a1 :: a2 :: a3 :: a4 :: a5 :: a6 :: a7 :: a8 :: a9 :: a10 :: a11 :: a12 :: a13 :: a14 :: a15 :: a16 :: a17 :: a18 :: a19 :: a20 :: a21 :: a22 :: a23 :: a24 :: s :: r) := Iff.rfl
theorem shr_25 {a0 a1 a2 a3 a4 a5 a6 a7 a8 a9 a10 a11 a12 a13 a14 a15 a16 a17 a18 a19 a20 a21 a22 a23 a24 : Slot} : Rs C g (.share 25 :: ss) (a0 :: a1 :: a2 :: a3 :: a4 :: a5 :: a6 :: a7 :: a8 :: a9 :: a10 :: a11 :: a12 :: a13 :: a14 :: a15 :: a16 :: a17 :: a18 :: a19 :: a20 :: a21 :: a22 :: a23 :: a24 :: .own ds :: r) μ S ↔ Rs C g ss (a0 :: a1 :: a2 :: a3 :: a4 :: a5 :: a6 :: a7 :: a8 :: a9 :: a10 :: a11 :: a12 :: a13 :: a14 :: a15 :: a16 :: a17 :: a18 :: a19 :: a20 :: a21 :: a22 :: a23 :: a24 :: .val (.lst ds) :: r) μ S := by rw [rs_seq]; simp only [evalS]; exact Iff.rfl
theorem var_26v {a0 a1 a2 a3 a4 a5 a6 a7 a8 a9 a10 a11 a12 a13 a14 a15 a16 a17 a18 a19 a20 a21 a22 a23 a24 a25 : Slot} : We C g (.var 26) (a0 :: a1 :: a2 :: a3 :: a4 :: a5 :: a6 :: a7 :: a8 :: a9 :: a10 :: a11 :: a12 :: a13 :: a14 :: a15 :: a16 :: a17 :: a18 :: a19 :: a20 :: a21 :: a22 :: a23 :: a24 :: a25 :: .val d :: r) μ Q E ↔ Q (.v d) μ := by unfold We; simp only [evalE]; exact Iff.rfl
theorem var_26o {a0 a1 a2 a3 a4 a5 a6 a7 a8 a9 a10 a11 a12 a13 a14 a15 a16 a17 a18 a19 a20 a21 a22 a23 a24 a25 : Slot} : We C g (.var 26) (a0 :: a1 :: a2 :: a3 :: a4 :: a5 :: a6 :: a7 :: a8 :: a9 :: a10 :: a11 :: a12 :: a13 :: a14 :: a15 :: a16 :: a17 :: a18 :: a19 :: a20 :: a21 :: a22 :: a23 :: a24 :: a25 :: .own ds :: r) μ Q E ↔ Q (.bo 26 ds) μ := by unfold We; simp only [evalE]; exact Iff.rfl
theorem sl_26 {a0 a1 a2 a3 a4 a5 a6 a7 a8 a9 a10 a11 a12 a13 a14 a15 a16 a17 a18 a19 a20 a21 a22 a23 a24 a25 a26 : Slot} {s : Slot} : Sl (a0 :: a1 :: a2 :: a3 :: a4 :: a5 :: a6 :: a7 :: a8 :: a9 :: a10 :: a11 :: a12 :: a13 :: a14 :: a15 :: a16 :: a17 :: a18 :: a19 :: a20 :: a21 :: a22 :: a23 :: a24 :: a25 :: a26 :: r) 26 s ke ↔ ke (a0 :: a1 :: a2 :: a3 :: a4 :: a5 :: a6 :: a7 :: a8 :: a9 :: a10 :: a11 :: a12 :: a13 :: a14 :: a15 :: a16 :: a17 :: a18 :: a19 :: a20 :: a21 :: a22 :: a23 :: a24 :: a25 :: s :: r) := ⟨fun h => h.2, fun h => ⟨by simp only [List.length_cons]; omega, h⟩⟩
theorem sw_26 {a0 a1 a2 a3 a4 a5 a6 a7 a8 a9 a10 a11 a12 a13 a14 a15 a16 a17 a18 a19 a20 a21 a22 a23 a24 a25 a26 : Slot} {s : Slot} : Sw (a0 :: a1 :: a2 :: a3 :: a4 :: a5 :: a6 :: a7 :: a8 :: a9 :: a10 :: a11 :: a12 :: a13 :: a14 :: a15 :: a16 :: a17 :: a18 :: a19 :: a20 :: a21 :: a22 :: a23 :: a24 :: a25 :: a26 :: r) 26 s ke ↔ ke (a0 :: a1 :: a2 :: a3 :: a4 :: a5 :: a6 :: a7 :: a8 :: a9 :: a10 :: a11 :: a12 :: a13 :: a14 :: a15 :: a16 :: a17 :: a18 :: a19 :: a20 :: a21 :: a22 :: a23 :: a24 :: a25 :: s :: r) := Iff.rfl
theorem shr_26 {a0 a1 a2 a3 a4 a5 a6 a7 a8 a9 a10 a11 a12 a13 a14 a15 a16 a17 a18 a19 a20 a21 a22 a23 a24 a25 : Slot} : Rs C g (.share 26 :: ss) (a0 :: a1 :: a2 :: a3 :: a4 :: a5 :: a6 :: a7 :: a8 :: a9 :: a10 :: a11 :: a12 :: a13 :: a14 :: a15 :: a16 :: a17 :: a18 :: a19 :: a20 :: a21 :: a22 :: a23 :: a24 :: a25 :: .own ds :: r) μ S ↔ Rs C g ss (a0 :: a1 :: a2 :: a3 :: a4 :: a5 :: a6 :: a7 :: a8 :: a9 :: a10 :: a11 :: a12 :: a13 :: a14 :: a15 :: a16 :: a17 :: a18 :: a19 :: a20 :: a21 :: a22 :: a23 :: a24 :: a25 :: .val (.lst ds) :: r) μ S := by rw [rs_seq]; simp only [evalS]; exact Iff.rfl
theorem var_27v {a0 a1 a2 a3 a4 a5 a6 a7 a8 a9 a10 a11 a12 a13 a14 a15 a16 a17 a18 a19 a20 a21 a22 a23 a24 a25 a26 : Slot} : We C g (.var 27) (a0 :: a1 :: a2 :: a3 :: a4 :: a5 :: a6 :: a7 :: a8 :: a9 :: a10 :: a11 :: a12 :: a13 :: a14 :: a15 :: a16 :: a17 :: a18 :: a19 :: a20 :: a21 :: a22 :: a23 :: a24 :: a25 :: a26 :: .val d :: r) μ Q E ↔ Q (.v d) μ := by unfold We; simp only [evalE]; exact Iff.rfl
theorem var_27o {a0 a1 a2 a3 a4 a5 a6 a7 a8 a9 a10 a11 a12 a13 a14 a15 a16 a17 a18 a19 a20 a21 a22 a23 a24 a25 a26 : Slot} : We C g (.var 27) (a0 :: a1 :: a2 :: a3 :: a4 :: a5 :: a6 :: a7 :: a8 :: a9 :: a10 :: a11 :: a12 :: a13 :: a14 :: a15 :: a16 :: a17 :: a18 :: a19 :: a20 :: a21 :: a22 :: a23 :: a24 :: a25 :: a26 :: .own ds :: r) μ Q E ↔ Q (.bo 27 ds) μ := by unfold We; simp only [evalE]; exact Iff.rfl
theorem sl_27 {a0 a1 a2 a3 a4 a5 a6 a7 a8 a9 a10 a11 a12 a13 a14 a15 a16 a17 a18 a19 a20 a21 a22 a23 a24 a25 a26 a27 : Slot} {s : Slot} : Sl (a0 :: a1 :: a2 :: a3 :: a4 :: a5 :: a6 :: a7 :: a8 :: a9 :: a10 :: a11 :: a12 :: a13 :: a14 :: a15 :: a16 :: a17 :: a18 :: a19 :: a20 :: a21 :: a22 :: a23 :: a24 :: a25 :: a26 :: a27 :: r) 27 s ke ↔ ke (a0 :: a1 :: a2 :: a3 :: a4 :: a5 :: a6 :: a7 :: a8 :: a9 :: a10 :: a11 :: a12 :: a13 :: a14 :: a15 :: a16 :: a17 :: a18 :: a19 :: a20 :: a21 :: a22 :: a23 :: a24 :: a25 :: a26 :: s :: r) := ⟨fun h => h.2, fun h => ⟨by simp only [List.length_cons]; omega, h⟩⟩
theorem sw_27 {a0 a1 a2 a3 a4 a5 a6 a7 a8 a9 a10 a11 a12 a13 a14 a15 a16 a17 a18 a19 a20 a21 a22 a23 a24 a25 a26 a27 : Slot} {s : Slot} : Sw (a0 :: a1 :: a2 :: a3 :: a4 :: a5 :: a6 :: a7 :: a8 :: a9 :: a10 :: a11 :: a12 :: a13 :: a14 :: a15 :: a16 :: a17 :: a18 :: a19 :: a20 :: a21 :: a22 :: a23 :: a24 :: a25 :: a26 :: a27 :: r) 27 s ke ↔ ke (a0 :: a1 :: a2 :: a3 :: a4 :: a5 :: a6 :: a7 :: a8 :: a9 :: a10 :: a11 :: a12 :: a13 :: a14 :: a15 :: a16 :: a17 :: a18 :: a19 :: a20 :: a21 :: a22 :: a23 :: a24 :: a25 :: a26 :: s :: r) := Iff.rfl
theorem shr_27 {a0 a1 a2 a3 a4 a5 a6 a7 a8 a9 a10 a11 a12 a13 a14 a15 a16 a17 a18 a19 a20 a21 a22 a23 a24 a25 a26 : Slot} : Rs C g (.share 27 :: ss) (a0 :: a1 :: a2 :: a3 :: a4 :: a5 :: a6 :: a7 :: a8 :: a9 :: a10 :: a11 :: a12 :: a13 :: a14 :: a15 :: a16 :: a17 :: a18 :: a19 :: a20 :: a21 :: a22 :: a23 :: a24 :: a25 :: a26 :: .own ds :: r) μ S ↔ Rs C g ss (a0 :: a1 :: a2 :: a3 :: a4 :: a5 :: a6 :: a7 :: a8 :: a9 :: a10 :: a11 :: a12 :: a13 :: a14 :: a15 :: a16 :: a17 :: a18 :: a19 :: a20 :: a21 :: a22 :: a23 :: a24 :: a25 :: a26 :: .val (.lst ds) :: r) μ S := by rw [rs_seq]; simp only [evalS]; exact Iff.rfl
theorem var_28v {a0 a1 a2 a3 a4 a5 a6 a7 a8 a9 a10 a11 a12 a13 a14 a15 a16 a17 a18 a19 a20 a21 a22 a23 a24 a25 a26 a27 : Slot} : We C g (.var 28) (a0 :: a1 :: a2 :: a3 :: a4 :: a5 :: a6 :: a7 :: a8 :: a9 :: a10 :: a11 :: a12 :: a13 :: a14 :: a15 :: a16 :: a17 :: a18 :: a19 :: a20 :: a21 :: a22 :: a23 :: a24 :: a25 :: a26 :: a27 :: .val d :: r) μ Q E ↔ Q (.v d) μ := by unfold We; simp only [evalE]; exact Iff.rfl
theorem var_28o {a0 a1 a2 a3 a4 a5 a6 a7 a8 a9 a10 a11 a12 a13 a14 a15 a16 a17 a18 a19 a20 a21 a22 a23 a24 a25 a26 a27 : Slot} : We C g (.var 28) (a0 :: a1 :: a2 :: a3 :: a4 :: a5 :: a6 :: a7 :: a8 :: a9 :: a10 :: a11 :: a12 :: a13 :: a14 :: a15 :: a16 :: a17 :: a18 :: a19 :: a20 :: a21 :: a22 :: a23 :: a24 :: a25 :: a26 :: a27 :: .own ds :: r) μ Q E ↔ Q (.bo 28 ds) μ := by unfold We; simp only [evalE]; exact Iff.rfl
theorem sl_28 {a0 a1 a2 a3 a4 a5 a6 a7 a8 a9 a10 a11 a12 a13 a14 a15 a16 a17 a18 a19 a20 a21 a22 a23 a24 a25 a26 a27 a28 : Slot} {s : Slot} : Sl (a0 :: a1 :: a2 :: a3 :: a4 :: a5 :: a6 :: a7 :: a8 :: a9 :: a10 :: a11 :: a12 :: a13 :: a14 :: a15 :: a16 :: a17 :: a18 :: a19 :: a20 :: a21 :: a22 :: a23 :: a24 :: a25 :: a26 :: a27 :: a28 :: r) 28 s ke ↔ ke (a0 :: a1 :: a2 :: a3 :: a4 :: a5 :: a6 :: a7 :: a8 :: a9 :: a10 :: a11 :: a12 :: a13 :: a14 :: a15 :: a16 :: a17 :: a18 :: a19 :: a20 :: a21 :: a22 :: a23 :: a24 :: a25 :: a26 :: a27 :: s :: r) := ⟨fun h => h.2, fun h => ⟨by simp only [List.length_cons]; omega, h⟩⟩
theorem sw_28 {a0 a1 a2 a3 a4 a5 a6 a7 a8 a9 a10 a11 a12 a13 a14 a15 a16 a17 a18 a19 a20 a21 a22 a23 a24 a25 a26 a27 a28 : Slot} {s : Slot} : Sw (a0 :: a1 :: a2 :: a3 :: a4 :: a5 :: a6 :: a7 :: a8 :: a9 :: a10 :: a11 :: a12 :: a13 :: a14 :: a15 :: a16 :: a17 :: a18 :: a19 :: a20 :: a21 :: a22 :: a23 :: a24 :: a25 :: a26 :: a27 :: a28 :: r) 28 s ke ↔ ke (a0 :: a1 :: a2 :: a3 :: a4 :: a5 :: a6 :: a7 :: a8 :: a9 :: a10 :: a11 :: a12 :: a13 :: a14 :: a15 :: a16 :: a17 :: a18 :: a19 :: a20 :: a21 :: a22 :: a23 :: a24 :: a25 :: a26 :: a27 :: s :: r) := Iff.rfl
theorem shr_28 {a0 a1 a2 a3 a4 a5 a6 a7 a8 a9 a10 a11 a12 a13 a14 a15 a16 a17 a18 a19 a20 a21 a22 a23 a24 a25 a26 a27 : Slot} : Rs C g (.share 28 :: ss) (a0 :: a1 :: a2 :: a3 :: a4 :: a5 :: a6 :: a7 :: a8 :: a9 :: a10 :: a11 :: a12 :: a13 :: a14 :: a15 :: a16 :: a17 :: a18 :: a19 :: a20 :: a21 :: a22 :: a23 :: a24 :: a25 :: a26 :: a27 :: .own ds :: r) μ S ↔ Rs C g ss (a0 :: a1 :: a2 :: a3 :: a4 :: a5 :: a6 :: a7 :: a8 :: a9 :: a10 :: a11 :: a12 :: a13 :: a14 :: a15 :: a16 :: a17 :: a18 :: a19 :: a20 :: a21 :: a22 :: a23 :: a24 :: a25 :: a26 :: a27 :: .val (.lst ds) :: r) μ S := by rw [rs_seq]; simp only [evalS]; exact Iff.rfl
theorem var_29v {a0 a1 a2 a3 a4 a5 a6 a7 a8 a9 a10 a11 a12 a13 a14 a15 a16 a17 a18 a19 a20 a21 a22 a23 a24 a25 a26 a27 a28 : Slot} : We C g (.var 29) (a0 :: a1 :: a2 :: a3 :: a4 :: a5 :: a6 :: a7 :: a8 :: a9 :: a10 :: a11 :: a12 :: a13 :: a14 :: a15 :: a16 :: a17 :: a18 :: a19 :: a20 :: a21 :: a22 :: a23 :: a24 :: a25 :: a26 :: a27 :: a28 :: .val d :: r) μ Q E ↔ Q (.v d) μ := by unfold We; simp only [evalE]; exact Iff.rfl
theorem var_29o {a0 a1 a2 a3 a4 a5 a6 a7 a8 a9 a10 a11 a12 a13 a14 a15 a16 a17 a18 a19 a20 a21 a22 a23 a24 a25 a26 a27 a28 : Slot} : We C g (.var 29) (a0 :: a1 :: a2 :: a3 :: a4 :: a5 :: a6 :: a7 :: a8 :: a9 :: a10 :: a11 :: a12 :: a13 :: a14 :: a15 :: a16 :: a17 :: a18 :: a19 :: a20 :: a21 :: a22 :: a23 :: a24 :: a25 :: a26 :: a27 :: a28 :: .own ds :: r) μ Q E ↔ Q (.bo 29 ds) μ := by unfold We; simp only [evalE]; exact Iff.rfl
theorem sl_29 {a0 a1 a2 a3 a4 a5 a6 a7 a8 a9 a10 a11 a12 a13 a14 a15 a16 a17 a18 a19 a20 a21 a22 a23 a24 a25 a26 a27 a28 a29 : Slot} {s : Slot} : Sl (a0 :: a1 :: a2 :: a3 :: a4 :: a5 :: a6 :: a7 :: a8 :: a9 :: a10 :: a11 :: a12 :: a13 :: a14 :: a15 :: a16 :: a17 :: a18 :: a19 :: a20 :: a21 :: a22 :: a23 :: a24 :: a25 :: a26 :: a27 :: a28 :: a29 :: r) 29 s ke ↔ ke (a0 :: a1 :: a2 :: a3 :: a4 :: a5 :: a6 :: a7 :: a8 :: a9 :: a10 :: a11 :: a12 :: a13 :: a14 :: a15 :: a16 :: a17 :: a18 :: a19 :: a20 :: a21 :: a22 :: a23 :: a24 :: a25 :: a26 :: a27 :: a28 :: s :: r) := ⟨fun h => h.2, fun h => ⟨by simp only [List.length_cons]; omega, h⟩⟩
theorem sw_29 {a0 a1 a2 a3 a4 a5 a6 a7 a8 a9 a10 a11 a12 a13 a14 a15 a16 a17 a18 a19 a20 a21 a22 a23 a24 a25 a26 a27 a28 a29 : Slot} {s : Slot} : Sw (a0 :: a1 :: a2 :: a3 :: a4 :: a5 :: a6 :: a7 :: a8 :: a9 :: a10 :: a11 :: a12 :: a13 :: a14 :: a15 :: a16 :: a17 :: a18 :: a19 :: a20 :: a21 :: a22 :: a23 :: a24 :: a25 :: a26 :: a27 :: a28 :: a29 :: r) 29 s ke ↔ ke (a0 :: a1 :: a2 :: a3 :: a4 :: a5 :: a6 :: a7 :: a8 :: a9 :: a10 :: a11 :: a12 :: a13 :: a14 :: a15 :: a16 :: a17 :: a18 :: a19 :: a20 :: a21 :: a22 :: a23 :: a24 :: a25 :: a26 :: a27 :: a28 :: s :: r) := Iff.rfl
theorem shr_29 {a0 a1 a2 a3 a4 a5 a6 a7 a8 a9 a10 a11 a12 a13 a14 a15 a16 a17 a18 a19 a20 a21 a22 a23 a24 a25 a26 a27 a28 : Slot} : Rs C g (.share 29 :: ss) (a0 :: a1 :: a2 :: a3 :: a4 :: a5 :: a6 :: a7 :: a8 :: a9 :: a10 :: a11 :: a12 :: a13 :: a14 :: a15 :: a16 :: a17 :: a18 :: a19 :: a20 :: a21 :: a22 :: a23 :: a24 :: a25 :: a26 :: a27 :: a28 :: .own ds :: r) μ S ↔ Rs C g ss (a0 :: a1 :: a2 :: a3 :: a4 :: a5 :: a6 :: a7 :: a8 :: a9 :: a10 :: a11 :: a12 :: a13 :: a14 :: a15 :: a16 :: a17 :: a18 :: a19 :: a20 :: a21 :: a22 :: a23 :: a24 :: a25 :: a26 :: a27 :: a28 :: .val (.lst ds) :: r) μ S := by rw [rs_seq]; simp only [evalS]; exact Iff.rfl
theorem var_30v {a0 a1 a2 a3 a4 a5 a6 a7 a8 a9 a10 a11 a12 a13 a14 a15 a16 a17 a18 a19 a20 a21 a22 a23 a24 a25 a26 a27 a28 a29 : Slot} : We C g (.var 30) (a0 :: a1 :: a2 :: a3 :: a4 :: a5 :: a6 :: a7 :: a8 :: a9 :: a10 :: a11 :: a12 :: a13 :: a14 :: a15 :: a16 :: a17 :: a18 :: a19 :: a20 :: a21 :: a22 :: a23 :: a24 :: a25 :: a26 :: a27 :: a28 :: a29 :: .val d :: r) μ Q E ↔ Q (.v d) μ := by unfold We; simp only [evalE]; exact Iff.rfl
theorem var_30o {a0 a1 a2 a3 a4 a5 a6 a7 a8 a9 a10 a11 a12 a13 a14 a15 a16 a17 a18 a19 a20 a21 a22 a23 a24 a25 a26 a27 a28 a29 : Slot} : We C g (.var 30) (a0 :: a1 :: a2 :: a3 :: a4 :: a5 :: a6 :: a7 :: a8 :: a9 :: a10 :: a11 :: a12 :: a13 :: a14 :: a15 :: a16 :: a17 :: a18 :: a19 :: a20 :: a21 :: a22 :: a23 :: a24 :: a25 :: a26 :: a27 :: a28 :: a29 :: .own ds :: r) μ Q E ↔ Q (.bo 30 ds) μ := by unfold We; simp only [evalE]; exact Iff.rfl
theorem sl_30 {a0 a1 a2 a3 a4 a5 a6 a7 a8 a9 a10 a11 a12 a13 a14 a15 a16 a17 a18 a19 a20 a21 a22 a23 a24 a25 a26 a27 a28 a29 a30 : Slot} {s : Slot} : Sl (a0 :: a1 :: a2 :: a3 :: a4 :: a5 :: a6 :: a7 :: a8 :: a9 :: a10 :: a11 :: a12 :: a13 :: a14 :: a15 :: a16 :: a17 :: a18 :: a19 :: a20 :: a21 :: a22 :: a23 :: a24 :: a25 :: a26 :: a27 :: a28 :: a29 :: a30 :: r) 30 s ke ↔ ke (a0 :: a1 :: a2 :: a3 :: a4 :: a5 :: a6 :: a7 :: a8 :: a9 :: a10 :: a11 :: a12 :: a13 :: a14 :: a15 :: a16 :: a17 :: a18 :: a19 :: a20 :: a21 :: a22 :: a23 :: a24 :: a25 :: a26 :: a27 :: a28 :: a29 :: s :: r) := ⟨fun h => h.2, fun h => ⟨by simp only [List.length_cons]; omega, h⟩⟩
theorem sw_30 {a0 a1 a2 a3 a4 a5 a6 a7 a8 a9 a10 a11 a12 a13 a14 a15 a16 a17 a18 a19 a20 a21 a22 a23 a24 a25 a26 a27 a28 a29 a30 : Slot} {s : Slot} : Sw (a0 :: a1 :: a2 :: a3 :: a4 :: a5 :: a6 :: a7 :: a8 :: a9 :: a10 :: a11 :: a12 :: a13 :: a14 :: a15 :: a16 :: a17 :: a18 :: a19 :: a20 :: a21 :: a22 :: a23 :: a24 :: a25 :: a26 :: a27 :: a28 :: a29 :: a30 :: r) 30 s ke ↔ ke (a0 :: a1 :: a2 :: a3 :: a4 :: a5 :: a6 :: a7 :: a8 :: a9 :: a10 :: a11 :: a12 :: a13 :: a14 :: a15 :: a16 :: a17 :: a18 :: a19 :: a20 :: a21 :: a22 :: a23 :: a24 :: a25 :: a26 :: a27 :: a28 :: a29 :: s :: r) := Iff.rfl
theorem shr_30 {a0 a1 a2 a3 a4 a5 a6 a7 a8 a9 a10 a11 a12 a13 a14 a15 a16 a17 a18 a19 a20 a21 a22 a23 a24 a25 a26 a27 a28 a29 : Slot} : Rs C g (.share 30 :: ss) (a0 :: a1 :: a2 :: a3 :: a4 :: a5 :: a6 :: a7 :: a8 :: a9 :: a10 :: a11 :: a12 :: a13 :: a14 :: a15 :: a16 :: a17 :: a18 :: a19 :: a20 :: a21 :: a22 :: a23 :: a24 :: a25 :: a26 :: a27 :: a28 :: a29 :: .own ds :: r) μ S ↔ Rs C g ss (a0 :: a1 :: a2 :: a3 :: a4 :: a5 :: a6 :: a7 :: a8 :: a9 :: a10 :: a11 :: a12 :: a13 :: a14 :: a15 :: a16 :: a17 :: a18 :: a19 :: a20 :: a21 :: a22 :: a23 :: a24 :: a25 :: a26 :: a27 :: a28 :: a29 :: .val (.lst ds) :: r) μ S := by rw [rs_seq]; simp only [evalS]; exact Iff.rfl
theorem var_31v {a0 a1 a2 a3 a4 a5 a6 a7 a8 a9 a10 a11 a12 a13 a14 a15 a16 a17 a18 a19 a20 a21 a22 a23 a24 a25 a26 a27 a28 a29 a30 : Slot} : We C g (.var 31) (a0 :: a1 :: a2 :: a3 :: a4 :: a5 :: a6 :: a7 :: a8 :: a9 :: a10 :: a11 :: a12 :: a13 :: a14 :: a15 :: a16 :: a17 :: a18 :: a19 :: a20 :: a21 :: a22 :: a23 :: a24 :: a25 :: a26 :: a27 :: a28 :: a29 :: a30 :: .val d :: r) μ Q E ↔ Q (.v d) μ := by unfold We; simp only [evalE]; exact Iff.rfl
theorem var_31o {a0 a1 a2 a3 a4 a5 a6 a7 a8 a9 a10 a11 a12 a13 a14 a15 a16 a17 a18 a19 a20 a21 a22 a23 a24 a25 a26 a27 a28 a29 a30 : Slot} : We C g (.var 31) (a0 :: a1 :: a2 :: a3 :: a4 :: a5 :: a6 :: a7 :: a8 :: a9 :: a10 :: a11 :: a12 :: a13 :: a14 :: a15 :: a16 :: a17 :: a18 :: a19 :: a20 :: a21 :: a22 :: a23 :: a24 :: a25 :: a26 :: a27 :: a28 :: a29 :: a30 :: .own ds :: r) μ Q E ↔ Q (.bo 31 ds) μ := by unfold We; simp only [evalE]; exact Iff.rfl
theorem sl_31 {a0 a1 a2 a3 a4 a5 a6 a7 a8 a9 a10 a11 a12 a13 a14 a15 a16 a17 a18 a19 a20 a21 a22 a23 a24 a25 a26 a27 a28 a29 a30 a31 : Slot} {s : Slot} : Sl (a0 :: a1 :: a2 :: a3 :: a4 :: a5 :: a6 :: a7 :: a8 :: a9 :: a10 :: a11 :: a12 :: a13 :: a14 :: a15 :: a16 :: a17 :: a18 :: a19 :: a20 :: a21 :: a22 :: a23 :: a24 :: a25 :: a26 :: a27 :: a28 :: a29 :: a30 :: a31 :: r) 31 s ke ↔ ke (a0 :: a1 :: a2 :: a3 :: a4 :: a5 :: a6 :: a7 :: a8 :: a9 :: a10 :: a11 :: a12 :: a13 :: a14 :: a15 :: a16 :: a17 :: a18 :: a19 :: a20 :: a21 :: a22 :: a23 :: a24 :: a25 :: a26 :: a27 :: a28 :: a29 :: a30 :: s :: r) := ⟨fun h => h.2, fun h => ⟨by simp only [List.length_cons]; omega, h⟩⟩
theorem sw_31 {a0 a1 a2 a3 a4 a5 a6 a7 a8 a9 a10 a11 a12 a13 a14 a15 a16 a17 a18 a19 a20 a21 a22 a23 a24 a25 a26 a27 a28 a29 a30 a31 : Slot} {s : Slot} : Sw (a0 :: a1 :: a2 :: a3 :: a4 :: a5 :: a6 :: a7 :: a8 :: a9 :: a10 :: a11 :: a12 :: a13 :: a14 :: a15 :: a16 :: a17 :: a18 :: a19 :: a20 :: a21 :: a22 :: a23 :: a24 :: a25 :: a26 :: a27 :: a28 :: a29 :: a30 :: a31 :: r) 31 s ke ↔ ke (a0 :: a1 :: a2 :: a3 :: a4 :: a5 :: a6 :: a7 :: a8 :: a9 :: a10 :: a11 :: a12 :: a13 :: a14 :: a15 :: a16 :: a17 :: a18 :: a19 :: a20 :: a21 :: a22 :: a23 :: a24 :: a25 :: a26 :: a27 :: a28 :: a29 :: a30 :: s :: r) := Iff.rfl
theorem shr_31 {a0 a1 a2 a3 a4 a5 a6 a7 a8 a9 a10 a11 a12 a13 a14 a15 a16 a17 a18 a19 a20 a21 a22 a23 a24 a25 a26 a27 a28 a29 a30 : Slot} : Rs C g (.share 31 :: ss) (a0 :: a1 :: a2 :: a3 :: a4 :: a5 :: a6 :: a7 :: a8 :: a9 :: a10 :: a11 :: a12 :: a13 :: a14 :: a15 :: a16 :: a17 :: a18 :: a19 :: a20 :: a21 :: a22 :: a23 :: a24 :: a25 :: a26 :: a27 :: a28 :: a29 :: a30 :: .own ds :: r) μ S ↔ Rs C g ss (a0 :: a1 :: a2 :: a3 :: a4 :: a5 :: a6 :: a7 :: a8 :: a9 :: a10 :: a11 :: a12 :: a13 :: a14 :: a15 :: a16 :: a17 :: a18 :: a19 :: a20 :: a21 :: a22 :: a23 :: a24 :: a25 :: a26 :: a27 :: a28 :: a29 :: a30 :: .val (.lst ds) :: r) μ S := by rw [rs_seq]; simp only [evalS]; exact Iff.rfl
/-! expressions -/
theorem we_lit {l : Lit} : We C g (.lit l) ρ μ Q E ↔ Q (.v (litD l)) μ := by unfold We; simp only [evalE]; exact Iff.rfl
theorem we_glob : We C g (.glob n) ρ μ Q E ↔ Gl g n fun d => Q (.v d) μ := by
  unfold We Gl; simp only [evalE]
  cases atT g n <;> exact Iff.rfl
theorem we_bin {o : BOp} : We C g (.bin o a b) ρ μ Q E ↔ We C g a ρ μ (fun x μ1 => We C g b ρ μ1 (fun y μ2 => Bn o x.d y.d fun v => Q v μ2) E) E := by
  unfold We; simp only [evalE, wq_bind, wq_bn]
theorem we_neg : We C g (.neg a) ρ μ Q E ↔ We C g a ρ μ (fun x μ1 => Io x.d fun i => Q (.v (.int (-i))) μ1) E := by
  unfold We; simp only [evalE, wq_bind]
  have key : ∀ (x : D) μ1, Wq (oM ((intO x).map fun i => RV.v (.int (-i)))) μ1 Q E ↔ Io x fun i => Q (.v (.int (-i))) μ1 := fun x μ1 => by
    unfold Io; cases intO x <;> exact Iff.rfl
  simp only [key]
theorem we_not : We C g (.not a) ρ μ Q E ↔ Wt C g a ρ μ (fun k μ1 => Q (.v (.bl (!k))) μ1) E := by
  unfold We Wt evalT; simp only [evalE, wq_bind, wq_pure]
theorem we_cmp {o : COp} : We C g (.cmp o a b) ρ μ Q E ↔ We C g a ρ μ (fun x μ1 => We C g b ρ μ1 (fun y μ2 => Cm o x.d y.d fun k => Q (.v (.bl k)) μ2) E) E := by
  unfold We; simp only [evalE, wq_bind]
  have key : ∀ (x y : D) μ1, Wq (oM ((cmpD o x y).map fun b => RV.v (.bl b))) μ1 Q E ↔ Cm o x y fun k => Q (.v (.bl k)) μ1 := fun x y μ1 => by
    unfold Cm; cases cmpD o x y <;> exact Iff.rfl
  simp only [key]
theorem we_and : We C g (.and a b) ρ μ Q E ↔ We C g a ρ μ (fun x μ1 => Tr x.d fun k => Br k (We C g b ρ μ1 Q E) (Q x.hold μ1)) E := by
  unfold We; simp only [evalE, wq_bind, wq_tr, wq_br, wq_pure]; exact Iff.rfl
theorem we_or : We C g (.or a b) ρ μ Q E ↔ We C g a ρ μ (fun x μ1 => Tr x.d fun k => Br k (Q x.hold μ1) (We C g b ρ μ1 Q E)) E := by
  unfold We; simp only [evalE, wq_bind, wq_tr, wq_br, wq_pure]; exact Iff.rfl
theorem we_ite : We C g (.ite c a b) ρ μ Q E ↔ Wt C g c ρ μ (fun k μ1 => Br k (We C g a ρ μ1 Q E) (We C g b ρ μ1 Q E)) E := by
  unfold We Wt evalT; simp only [evalE, wq_bind, wq_br]
theorem we_tup : We C g (.tup es) ρ μ Q E ↔ Was C g es ρ μ (fun ds μ1 => Sz ds.length (Q (.v (.tup ds)) μ1)) E := by
  unfold We; simp only [evalE, wq_bind, wq_ite, wq_pure]
  have key : ∀ (ds : List D) μ1, (if ds.length ≤ sizeLine then Q (.v (.tup ds)) μ1 else Wq stuck μ1 Q E) ↔ Sz ds.length (Q (.v (.tup ds)) μ1) := fun ds μ1 => by
    unfold Sz; split
    · rename_i h; simp only [h, true_and]
    · rename_i h; simp only [h, false_and]; exact Iff.rfl
  simp only [key]; exact Iff.rfl
theorem we_lst : We C g (.lst es) ρ μ Q E ↔ Was C g es ρ μ (fun ds μ1 => Sz ds.length (Q (.fr ds) μ1)) E := by
  unfold We; simp only [evalE, wq_bind, wq_ite, wq_pure]
  have key : ∀ (ds : List D) μ1, (if ds.length ≤ sizeLine then Q (.fr ds) μ1 else Wq stuck μ1 Q E) ↔ Sz ds.length (Q (.fr ds) μ1) := fun ds μ1 => by
    unfold Sz; split
    · rename_i h; simp only [h, true_and]
    · rename_i h; simp only [h, false_and]; exact Iff.rfl
  simp only [key]; exact Iff.rfl
theorem sz_le {P : Prop} (h : n ≤ 1000000) : Sz n P ↔ P := ⟨fun q => q.2, fun q => ⟨by rw [sizeLine_eq]; omega, q⟩⟩
theorem we_cell : We C g (.cell e) ρ μ Q E ↔ We C g e ρ μ (fun x μ1 => Fr x fun ds => Nw (.lst ds) μ1 fun n μ2 => Q (.v (.ref n)) μ2) E := by
  unfold We; simp only [evalE, wq_bind]
  have key : ∀ (x : RV) μ1, Wq (match x with
    | .fr ds => M.bind (newC (.lst ds)) fun n => M.pure (RV.v (.ref n))
    | _ => stuck) μ1 Q E ↔ Fr x fun ds => Nw (.lst ds) μ1 fun n μ2 => Q (.v (.ref n)) μ2 := fun x μ1 => by
    cases x <;> exact Iff.rfl
  exact wq_congr rfl key
def Dk (ks : List Key) (ds : List D) (P : Prop) (_ : Tg P := ()) : Prop := (ds.length = ks.length ∧ ks.length ≤ 15 ∧ ks.Nodup) ∧ P
theorem we_dct {ks : List Key} : We C g (.dct ks es) ρ μ Q E ↔ Was C g es ρ μ (fun ds μ1 => Dk ks ds (Nw (.dct (ks.zip ds)) μ1 fun n μ2 => Q (.v (.ref n)) μ2)) E := by
  unfold We; simp only [evalE, wq_bind, wq_ite]
  have key : ∀ (ds : List D) μ1, (if ds.length = ks.length ∧ ks.length ≤ 15 ∧ ks.Nodup then Wq (M.bind (newC (.dct (ks.zip ds))) fun n => M.pure (RV.v (.ref n))) μ1 Q E else Wq stuck μ1 Q E) ↔ Dk ks ds (Nw (.dct (ks.zip ds)) μ1 fun n μ2 => Q (.v (.ref n)) μ2) := fun ds μ1 => by
    unfold Dk; split
    · rename_i h; exact ⟨fun q => ⟨h, q⟩, fun q => q.2⟩
    · rename_i h; exact ⟨fun q => q.elim, fun q => h q.1⟩
  simp only [wq_bind] at key
  simp only [key]; exact Iff.rfl
theorem idxM_ok {a i : D} {x : Ex} {μ1 : Sto} (h : idxM a i μ = some (.exc x μ1)) : False := by
  unfold idxM at h
  split at h
  · split at h
    · simp only [Option.bind_eq_some_iff, Option.map_eq_some_iff] at h
      obtain ⟨_, _, _, _, h⟩ := h; cases h
    · simp only [Option.map_eq_some_iff] at h
      obtain ⟨_, _, h⟩ := h; cases h
    · cases h
  · simp only [Option.map_eq_some_iff] at h
    obtain ⟨_, _, h⟩ := h; cases h
theorem ix_e {a i : D} : Wq (idxM a i) μ Q E ↔ Ix a i μ Q := by
  unfold Ix Wq
  cases h : idxM a i μ with
  | none => exact Iff.rfl
  | some v =>
    cases v with
    | ok a μ1 => exact Iff.rfl
    | exc x μ1 => exact (idxM_ok h).elim
theorem we_idx : We C g (.idx a b) ρ μ Q E ↔ We C g a ρ μ (fun x μ1 => We C g b ρ μ1 (fun y μ2 => Ix x.d y.d μ2 Q) E) E := by
  unfold We; simp only [evalE, wq_bind, ix_e]
theorem wo_none : Wo C g none ρ μ R E ↔ R none μ := by unfold Wo; simp only [evalO]; exact Iff.rfl
theorem wo_some : Wo C g (some e) ρ μ R E ↔ We C g e ρ μ (fun x μ1 => Io x.d fun i => R (some i) μ1) E := by
  unfold Wo; simp only [evalO, wq_bind, wq_io, wq_pure]; exact Iff.rfl
theorem we_slc {lo hi : Option J.E} : We C g (.slc a lo hi) ρ μ Q E ↔ We C g a ρ μ (fun x μ1 => Wo C g lo ρ μ1 (fun l μ2 => Wo C g hi ρ μ2 (fun h μ3 => Sc x.d l h fun v => Q v μ3) E) E) E := by
  unfold We; simp only [evalE, wq_bind, wq_sc]; exact Iff.rfl
def Rv (a : D) (k : RV → Prop) (_ : Tg k := ()) : Prop := match a with
  | .lst ds => k (.fr ds.reverse)
  | _ => False
theorem we_rev : We C g (.rev a) ρ μ Q E ↔ We C g a ρ μ (fun x μ1 => Rv x.d fun v => Q v μ1) E := by
  unfold We; simp only [evalE, wq_bind]
  have key : ∀ (x : D) μ1, Wq (match x with
    | .lst ds => M.pure (RV.fr ds.reverse)
    | _ => stuck) μ1 Q E ↔ Rv x fun v => Q v μ1 := fun x μ1 => by cases x <;> exact Iff.rfl
  exact wq_congr rfl fun x μ1 => key x.d μ1
theorem rv_l : Rv (.lst ds) kk ↔ kk (.fr ds.reverse) := Iff.rfl
def Rvt (a : D) (cut : Bool) (k : RV → Prop) (_ : Tg k := ()) : Prop := match a with
  | .tup ds => k (.v (.tup (backL ds cut)))
  | _ => False
theorem we_revt {cut : Bool} : We C g (.revt cut a) ρ μ Q E ↔ We C g a ρ μ (fun x μ1 => Rvt x.d cut fun v => Q v μ1) E := by
  unfold We; simp only [evalE, wq_bind]
  have key : ∀ (x : D) μ1, Wq (match x with
    | .tup ds => M.pure (RV.v (.tup (backL ds cut)))
    | _ => stuck) μ1 Q E ↔ Rvt x cut fun v => Q v μ1 := fun x μ1 => by cases x <;> exact Iff.rfl
  exact wq_congr rfl fun x μ1 => key x.d μ1
theorem rv_t : Rvt (.tup ds) false kk ↔ kk (.v (.tup ds.reverse)) := Iff.rfl
theorem rv_tc : Rvt (.tup ds) true kk ↔ kk (.v (.tup ds.dropLast.reverse)) := Iff.rfl
def Nl (eq : Bool) (d : D) (μ : Sto) (Q : RV → Sto → Prop) (_ : Tg (μ, Q) := ()) : Prop := Wq (nilM eq d) μ Q nE
theorem nilM_ok {eq : Bool} {d : D} {x : Ex} {μ1 : Sto} (h : nilM eq d μ = some (.exc x μ1)) : False := by
  unfold nilM at h
  split at h
  · split at h
    · split at h <;> cases h
    · cases h
  · cases h
theorem nl_e {eq : Bool} {d : D} : Wq (nilM eq d) μ Q E ↔ Nl eq d μ Q := by
  unfold Nl Wq
  cases h : nilM eq d μ with
  | none => exact Iff.rfl
  | some v =>
    cases v with
    | ok a μ1 => exact Iff.rfl
    | exc x μ1 => exact (nilM_ok h).elim
theorem we_nilc {eq : Bool} : We C g (.nilc eq a) ρ μ Q E ↔ We C g a ρ μ (fun x μ1 => Nl eq x.d μ1 Q) E := by
  unfold We; simp only [evalE, wq_bind, nl_e]
theorem nl_ref {eq : Bool} (h : μ[n]? = some (.lst ds)) (hs : shp (.lst ds) = true) : Nl eq (.ref n) μ Q ↔ Q (.v (.bl (if eq then ds.isEmpty else !ds.isEmpty))) μ := by
  unfold Nl Wq nilM; simp only [h, if_pos hs]
theorem we_comp {own : List Nat} {t : T} {co : Option J.E} : We C g (.comp own t a co e) ρ μ Q E ↔ Wi C g a ρ μ (fun ds μ1 => Cmp C g own t co e ds ρ μ1 Q) E := by
  unfold We Wi Cmp; rw [comp_eq]; simp only [wq_bind, wq_noex]
  have key : ∀ (r ds : List D) μ1 E', Wq (if r.length ≤ sizeLine ∧ ds.length ≤ sizeLine then M.pure (RV.fr r) else stuck) μ1 Q E' ↔ Wq (if r.length ≤ sizeLine ∧ ds.length ≤ sizeLine then M.pure (RV.fr r) else stuck) μ1 Q nE := fun r ds μ1 E' => by
    split <;> exact Iff.rfl
  simp only [key _ _ _ E]
theorem we_call0 {f : Nat} : We C g (.call f []) ρ μ Q E ↔ Wp (C f []) μ Q nE := by
  unfold We; simp only [evalE, evalEs, wq_bind, wq_pure, wq_noex]; exact Iff.rfl
theorem we_call {f : Nat} : We C g (.call f (e :: es)) ρ μ Q E ↔ We C g e ρ μ (fun x μ1 => Nv x fun d => Was C g es ρ μ1 (fun ds μ2 => Wp (C f (d :: ds)) μ2 Q E) E) E := by
  unfold We Was; simp only [evalE, evalEs, wq_bind, wq_pure, wp_nv]; exact Iff.rfl
theorem bltM_ok {f : Blt} {ds : List D} {x : Ex} {μ1 : Sto} (h : bltM f ds μ = some (.exc x μ1)) : False := by
  unfold bltM at h
  split at h
  · split at h <;> cases h
  · split at h <;> cases h
  · split at h <;> cases h
  · cases q : bltD f ds with
    | none => rw [q] at h; cases h
    | some v => rw [q] at h; cases h
theorem bl_e {f : Blt} {ds : List D} : Wq (bltM f ds) μ Q E ↔ Bl f ds μ Q := by
  unfold Bl Wq
  cases h : bltM f ds μ with
  | none => exact Iff.rfl
  | some v =>
    cases v with
    | ok a μ1 => exact Iff.rfl
    | exc x μ1 => exact (bltM_ok h).elim
theorem we_blt {f : Blt} : We C g (.blt f es) ρ μ Q E ↔ Wbs C g es ρ μ (fun ds μ1 => Bl f ds μ1 Q) E := by
  unfold We; simp only [evalE, wq_bind, bl_e]; exact Iff.rfl
theorem mc_e {m : Mth} {o : D} {K : Sto → Prop} : Wq (chkM m o) μ (fun _ μ1 => K μ1) E ↔ Mc m o μ K := by
  unfold Mc Wq
  cases h : chkM m o μ with
  | none => exact Iff.rfl
  | some v =>
    cases v with
    | ok a μ1 => exact Iff.rfl
    | exc x μ1 =>
      exfalso
      unfold chkM at h
      split at h <;> first | cases h | skip
      all_goals (split at h <;> cases h)
theorem mt_e {m : Mth} {o : D} {ds : List D} : Wq (methM m o ds) μ Q E ↔ Mt m o ds μ Q := by
  unfold Mt Wq
  cases h : methM m o ds μ with
  | none => exact Iff.rfl
  | some v =>
    cases v with
    | ok a μ1 => exact Iff.rfl
    | exc x μ1 =>
      exfalso
      unfold methM at h
      split at h
      · split at h
        · split at h <;> cases h
        · split at h
          · split at h <;> cases h
          · cases h
        · simp only [Option.bind_eq_some_iff] at h
          obtain ⟨_, _, h⟩ := h
          split at h <;> cases h
        · cases h
      · cases q : methD m o ds with
        | none => rw [q] at h; cases h
        | some r => rw [q] at h; cases h
theorem we_meth {m : Mth} : We C g (.meth m a es) ρ μ Q E ↔ We C g a ρ μ (fun x μ1 => Mc m x.d μ1 fun μ2 => Wbs C g es ρ μ2 (fun ds μ3 => Mt m x.d ds μ3 Q) E) E := by
  unfold We; simp only [evalE, wq_bind, mt_e]
  have key : ∀ (o : D) μ1 (K : Sto → Prop), Wq (chkM m o) μ1 (fun _ μ2 => K μ2) E ↔ Mc m o μ1 K := fun o μ1 K => mc_e
  simp only [key]; exact Iff.rfl
/-! truth -/
theorem wt_we (h : ∀ x : Nat, True) : Wt C g e ρ μ P E ↔ We C g e ρ μ (fun x μ1 => Tr x.d fun k => P k μ1) E := by
  unfold Wt We evalT; simp only [wq_bind, wq_tr]
theorem wt_var : Wt C g (.var i) ρ μ P E ↔ We C g (.var i) ρ μ (fun x μ1 => Tr x.d fun k => P k μ1) E := wt_we fun _ => trivial
theorem wt_glob : Wt C g (.glob i) ρ μ P E ↔ We C g (.glob i) ρ μ (fun x μ1 => Tr x.d fun k => P k μ1) E := wt_we fun _ => trivial
theorem wt_call {f : Nat} : Wt C g (.call f es) ρ μ P E ↔ We C g (.call f es) ρ μ (fun x μ1 => Tr x.d fun k => P k μ1) E := wt_we fun _ => trivial
theorem wt_blt {f : Blt} : Wt C g (.blt f es) ρ μ P E ↔ We C g (.blt f es) ρ μ (fun x μ1 => Tr x.d fun k => P k μ1) E := wt_we fun _ => trivial
theorem wt_idx : Wt C g (.idx a b) ρ μ P E ↔ We C g (.idx a b) ρ μ (fun x μ1 => Tr x.d fun k => P k μ1) E := wt_we fun _ => trivial
theorem wt_bin {o : BOp} : Wt C g (.bin o a b) ρ μ P E ↔ We C g (.bin o a b) ρ μ (fun x μ1 => Tr x.d fun k => P k μ1) E := wt_we fun _ => trivial
theorem wt_ite : Wt C g (.ite c a b) ρ μ P E ↔ We C g (.ite c a b) ρ μ (fun x μ1 => Tr x.d fun k => P k μ1) E := wt_we fun _ => trivial
theorem wt_nilc {eq : Bool} : Wt C g (.nilc eq a) ρ μ P E ↔ We C g (.nilc eq a) ρ μ (fun x μ1 => Tr x.d fun k => P k μ1) E := wt_we fun _ => trivial
theorem wt_lit {v : Bool} : Wt C g (.lit (.bl v)) ρ μ P E ↔ P v μ := by unfold Wt evalT; simp only [evalE, M.pure_bind]; exact Iff.rfl
theorem wt_cmp {o : COp} : Wt C g (.cmp o a b) ρ μ P E ↔ We C g a ρ μ (fun x μ1 => We C g b ρ μ1 (fun y μ2 => Cm o x.d y.d fun k => P k μ2) E) E := by
  unfold Wt; rw [evalT_cmp]; simp only [wq_bind, wq_cm]; exact Iff.rfl
theorem wt_not : Wt C g (.not a) ρ μ P E ↔ Wt C g a ρ μ (fun k μ1 => P (!k) μ1) E := by
  unfold Wt; rw [evalT_not]; simp only [wq_bind, wq_pure]
theorem wt_and : Wt C g (.and a b) ρ μ P E ↔ Wt C g a ρ μ (fun k μ1 => Br k (Wt C g b ρ μ1 P E) (P false μ1)) E := by
  unfold Wt; rw [evalT_and]; simp only [wq_bind, wq_br, wq_pure]; exact Iff.rfl
theorem wt_or : Wt C g (.or a b) ρ μ P E ↔ Wt C g a ρ μ (fun k μ1 => Br k (P true μ1) (Wt C g b ρ μ1 P E)) E := by
  unfold Wt; rw [evalT_or]; simp only [wq_bind, wq_br, wq_pure]; exact Iff.rfl
theorem wt_chain {o p : COp} : Wt C g (.chain o p a b c) ρ μ P E ↔ We C g a ρ μ (fun x μ1 => We C g b ρ μ1 (fun y μ2 => Cm o x.d y.d fun k => Br k (We C g c ρ μ2 (fun z μ3 => Cm p y.d z.d fun k => P k μ3) E) (P false μ2)) E) E := by
  unfold Wt; rw [evalT_chain]; simp only [wq_bind, wq_cm, wq_ite, wq_pure]; exact Iff.rfl
/-! what is walked -/
def Wk' (x : RV) (k : List D → Prop) (_ : Tg k := ()) : Prop := match x with
  | .bo _ _ => False
  | _ => match walkD x.d with
    | some ds => k ds
    | none => False
theorem wi_gen (h : True) : Wi C g e ρ μ W E ↔ We C g e ρ μ (fun x μ1 => Wk' x fun ds => W ds μ1) E := by
  unfold Wi evalW We
  rw [wq_bind]
  have key : ∀ (x : RV) μ1, Wq (match x with
    | .bo _ _ => stuck
    | _ => oM (walkD x.d)) μ1 W E ↔ Wk' x fun ds => W ds μ1 := fun x μ1 => by
    cases x with
    | bo i ds => exact Iff.rfl
    | v d =>
      show Wq (oM (walkD d)) _ _ _ ↔ match walkD d with
        | some ds => W ds μ1
        | none => False
      cases walkD d <;> exact Iff.rfl
    | fr ds => exact Iff.rfl
  exact wq_congr rfl key
theorem wi_var : Wi C g (.var i) ρ μ W E ↔ We C g (.var i) ρ μ (fun x μ1 => Wk' x fun ds => W ds μ1) E := wi_gen trivial
theorem wi_glob : Wi C g (.glob i) ρ μ W E ↔ We C g (.glob i) ρ μ (fun x μ1 => Wk' x fun ds => W ds μ1) E := wi_gen trivial
theorem wi_idx : Wi C g (.idx a b) ρ μ W E ↔ We C g (.idx a b) ρ μ (fun x μ1 => Wk' x fun ds => W ds μ1) E := wi_gen trivial
theorem wi_slc {lo hi : Option J.E} : Wi C g (.slc a lo hi) ρ μ W E ↔ We C g (.slc a lo hi) ρ μ (fun x μ1 => Wk' x fun ds => W ds μ1) E := wi_gen trivial
theorem wi_call {f : Nat} : Wi C g (.call f es) ρ μ W E ↔ We C g (.call f es) ρ μ (fun x μ1 => Wk' x fun ds => W ds μ1) E := wi_gen trivial
theorem wi_bin {o : BOp} : Wi C g (.bin o a b) ρ μ W E ↔ We C g (.bin o a b) ρ μ (fun x μ1 => Wk' x fun ds => W ds μ1) E := wi_gen trivial
theorem wi_tup : Wi C g (.tup es) ρ μ W E ↔ We C g (.tup es) ρ μ (fun x μ1 => Wk' x fun ds => W ds μ1) E := wi_gen trivial
theorem wi_lst : Wi C g (.lst es) ρ μ W E ↔ We C g (.lst es) ρ μ (fun x μ1 => Wk' x fun ds => W ds μ1) E := wi_gen trivial
theorem wi_rev : Wi C g (.rev a) ρ μ W E ↔ We C g (.rev a) ρ μ (fun x μ1 => Wk' x fun ds => W ds μ1) E := wi_gen trivial
theorem wi_revt {cut : Bool} : Wi C g (.revt cut a) ρ μ W E ↔ We C g (.revt cut a) ρ μ (fun x μ1 => Wk' x fun ds => W ds μ1) E := wi_gen trivial
theorem wi_meth {m : Mth} : Wi C g (.meth m a es) ρ μ W E ↔ We C g (.meth m a es) ρ μ (fun x μ1 => Wk' x fun ds => W ds μ1) E := wi_gen trivial
theorem wi_comp {own : List Nat} {t : T} {co : Option J.E} : Wi C g (.comp own t a co e) ρ μ W E ↔ We C g (.comp own t a co e) ρ μ (fun x μ1 => Wk' x fun ds => W ds μ1) E := wi_gen trivial
theorem wk_l {K : List D → Prop} : Wk' (.v (.lst ds)) K ↔ K ds := Iff.rfl
theorem wk_t {K : List D → Prop} : Wk' (.v (.tup ds)) K ↔ K ds := Iff.rfl
theorem wk_f {K : List D → Prop} : Wk' (.fr ds) K ↔ K ds := Iff.rfl
theorem wk_s {z : Str} {K : List D → Prop} : Wk' (.v (.str z)) K ↔ K (z.cps.toList.map strD) := Iff.rfl
def rngL (n : Int) : List D := (List.range n.toNat).map fun (i : Nat) => .int (0 + (i : Int))
def Rg (n : Int) (P : Prop) (_ : Tg P := ()) : Prop := (-(2 ^ 62) ≤ n ∧ n < 2 ^ 62) ∧ P
theorem wi_rng : Wi C g (.irng a) ρ μ W E ↔ We C g a ρ μ (fun x μ1 => Io x.d fun n => Rg n (W (rngL n) μ1)) E := by
  unfold Wi evalW We
  simp only [evalE, wq_bind]
  refine wq_congr rfl fun x μ1 => ?_
  unfold Io Rg
  cases intO x.d with
  | none => exact Iff.rfl
  | some n =>
    show Wq (if -(2 ^ 62) ≤ n ∧ n < 2 ^ 62 then M.pure (RV.v (.lst ((List.range n.toNat).map fun (i : Nat) => .int (0 + (i : Int))))) else stuck) μ1 _ E ↔ _
    by_cases hc : -(2 ^ 62) ≤ n ∧ n < 2 ^ 62
    · rw [if_pos hc]; exact ⟨fun q => ⟨hc, q⟩, fun q => q.2⟩
    · rw [if_neg hc]; exact ⟨fun q => q.elim, fun q => absurd q.1 hc⟩
def Ls (a : D) (k : List D → Prop) (_ : Tg k := ()) : Prop := match listD a with
  | some ds => k ds
  | none => False
def It (a : D) (k : List D → Prop) (_ : Tg k := ()) : Prop := match itemsD a with
  | some ds => k ds
  | none => False
theorem wi_enum : Wi C g (.ienum a) ρ μ W E ↔ We C g a ρ μ (fun x μ1 => Nv x fun d => It d fun ds => W (enumD 0 ds) μ1) E := by
  unfold Wi evalW We
  simp only [evalE, wq_bind]
  refine wq_congr rfl fun x μ1 => ?_
  unfold Nv needV
  cases x.val with
  | none => exact Iff.rfl
  | some d => cases d <;> exact Iff.rfl
def Tw (a b : D) (k : List D → List D → Prop) (_ : Tg k := ()) : Prop := match twoD a b with
  | some p => k p.1 p.2
  | none => False
theorem wi_zip : Wi C g (.izip a b) ρ μ W E ↔ We C g a ρ μ (fun x μ1 => Nv x fun d => We C g b ρ μ1 (fun y μ2 => Nv y fun d' => Tw d d' fun xs ys => W (zipD xs ys) μ2) E) E := by
  unfold Wi evalW We
  simp only [evalE, wq_bind]
  refine wq_congr rfl fun x μ1 => ?_
  unfold Nv needV
  cases x.val with
  | none => exact Iff.rfl
  | some d =>
    show Wq (evalE C g b ρ) μ1 _ E ↔ Wq (evalE C g b ρ) μ1 _ E
    refine wq_congr rfl fun y μ2 => ?_
    cases y.val with
    | none => exact Iff.rfl
    | some d' => cases d <;> cases d' <;> exact Iff.rfl
theorem wi_irev : Wi C g (.irev a) ρ μ W E ↔ We C g a ρ μ (fun x μ1 => Nv x fun d => It d fun ds => W ds.reverse μ1) E := by
  unfold Wi evalW We
  simp only [evalE, wq_bind]
  refine wq_congr rfl fun x μ1 => ?_
  unfold Nv needV
  cases x.val with
  | none => exact Iff.rfl
  | some d => cases d <;> exact Iff.rfl
/-! values that stand there -/
theorem nv_v : Nv (.v d) k ↔ k d := Iff.rfl
theorem nv_fr : Nv (.fr ds) k ↔ k (.lst ds) := Iff.rfl
theorem fr_fr {K : List D → Prop} : Fr (.fr ds) K ↔ K ds := Iff.rfl
theorem v_d : (RV.v d).d = d := rfl
theorem fr_d : (RV.fr ds).d = .lst ds := rfl
theorem bo_d : (RV.bo i ds).d = .lst ds := rfl
theorem rtV_v : rtV (.v d) = .v d := rfl
theorem rtV_fr : rtV (.fr ds) = .fr ds := rfl
theorem rtV_bo : rtV (.bo i ds) = .fr ds := rfl
theorem hold_v : (RV.v d).hold = .v d := rfl
theorem hold_fr : (RV.fr ds).hold = .v (.lst ds) := rfl
theorem lit_i {z : Int} : litD (.int z) = .int z := rfl
theorem lit_s {z : Str} : litD (.str z) = .str z := rfl
theorem lit_b {z : Bool} : litD (.bl z) = .bl z := rfl
theorem lit_n : litD .non = .non := rfl
variable {A B : Prop}
theorem br_t : Br true A B ↔ A := Iff.rfl
theorem br_f : Br false A B ↔ B := Iff.rfl
theorem br_i {c : Bool} (h1 : c = true → A) (h2 : c = false → B) : Br c A B := by
  cases c
  · exact h2 rfl
  · exact h1 rfl
theorem br_d {c : Prop} [Decidable c] (h1 : c → A) (h2 : ¬ c → B) : Br (decide c) A B := by
  by_cases h : c
  · rw [decide_eq_true h]; exact h1 h
  · rw [decide_eq_false h]; exact h2 h
theorem br_and {b c : Bool} (h : Br b (Br c A B) B) : Br (b && c) A B := by
  cases b
  · exact h
  · exact h
theorem nw_ {c : Cell} {K : Nat → Sto → Prop} : Nw c μ K ↔ K μ.length (μ ++ [c]) := Iff.rfl
variable {u v : Int} {z w : Str}
theorem io_i {K : Int → Prop} : Io (.int u) K ↔ K u := Iff.rfl
theorem ls_l {K : List D → Prop} : Ls (.lst ds) K ↔ K ds := Iff.rfl
theorem it_l {K : List D → Prop} : It (.lst ds) K ↔ K ds := Iff.rfl
theorem it_t {K : List D → Prop} : It (.tup ds) K ↔ K ds := Iff.rfl
theorem tw_l {xs ys : List D} {K : List D → List D → Prop} : Tw (.lst xs) (.lst ys) K ↔ K xs ys := Iff.rfl
theorem tw_t {xs ys : List D} {K : List D → List D → Prop} : Tw (.tup xs) (.tup ys) K ↔ K xs ys := Iff.rfl
theorem tr_b {t : Bool} : Tr (.bl t) kb ↔ kb t := Iff.rfl
theorem tr_i : Tr (.int u) kb ↔ kb (u != 0) := Iff.rfl
theorem tr_l : Tr (.lst ds) kb ↔ kb (!ds.isEmpty) := Iff.rfl
theorem tr_t : Tr (.tup ds) kb ↔ kb (!ds.isEmpty) := Iff.rfl
theorem tr_n : Tr .non kb ↔ kb false := Iff.rfl
theorem bn_addi : Bn .add (.int u) (.int v) kk ↔ kk (.v (.int (u + v))) := Iff.rfl
theorem bn_subi : Bn .sub (.int u) (.int v) kk ↔ kk (.v (.int (u - v))) := Iff.rfl
theorem bn_addl {xs ys : List D} (h : xs.length + ys.length ≤ 1000000) : Bn .add (.lst xs) (.lst ys) kk ↔ kk (.fr (xs ++ ys)) := by unfold Bn; simp only [binD, if_pos (show xs.length + ys.length ≤ sizeLine by rw [sizeLine_eq]; omega)]
theorem bn_addt {xs ys : List D} (h : xs.length + ys.length ≤ 1000000) : Bn .add (.tup xs) (.tup ys) kk ↔ kk (.v (.tup (xs ++ ys))) := by unfold Bn; simp only [binD, if_pos (show xs.length + ys.length ≤ sizeLine by rw [sizeLine_eq]; omega)]
theorem bn_mod (h : 0 < v) : Bn .mod (.int u) (.int v) kk ↔ kk (.v (.int (u % v))) := by unfold Bn; simp only [binD, if_pos h]
theorem bn_fdiv (h : 0 < v) (h1 : v.natAbs.log2 < 9000) : Bn .fdiv (.int u) (.int v) kk ↔ kk (.v (.int (u / v))) := by unfold Bn; simp only [binD, if_pos (And.intro h h1)]
theorem bn_rep {xs : List D} (h0 : 0 ≤ v) (h1 : v ≤ 1000000) (h : xs.length * v.toNat ≤ 1000000) : Bn .mul (.lst xs) (.int v) kk ↔ kk (.fr (List.replicate v.toNat xs).flatten) := by unfold Bn; simp only [binD, if_pos (And.intro h0 (And.intro h1 h))]
theorem bn_rept {xs : List D} (hn : xs ≠ []) (h0 : 0 ≤ v) (h1 : v ≤ 1000) (h : xs.length ≤ 1000) : Bn .mul (.tup xs) (.int v) kk ↔ kk (.v (.tup (List.replicate v.toNat xs).flatten)) := by unfold Bn; simp only [binD, if_pos (And.intro hn (And.intro h0 (And.intro h1 h)))]
theorem bn_mul (h : u.natAbs.log2 + v.natAbs.log2 < 1000000) : Bn .mul (.int u) (.int v) kk ↔ kk (.v (.int (u * v))) := by unfold Bn; simp only [binD, if_pos h]
theorem shp_int {a : Int} : shp (.int a) = true := rfl
theorem shp_bl {a : Bool} : shp (.bl a) = true := rfl
theorem shp_non : shp .non = true := rfl
theorem eqD_int {a b : Int} : eqD (.int a) (.int b) = decide (a = b) := by simp only [eqD, D.py, PyData.eqv]; by_cases h : a = b <;> simp [h]
theorem cmp_eq {a b : D} (h : shp a = true) (k : shp b = true) : cmpD .eq a b = some (eqD a b) := by simp only [cmpD, h, k, and_self, if_true]
theorem cmp_ne {a b : D} (h : shp a = true) (k : shp b = true) : cmpD .ne a b = some (!eqD a b) := by simp only [cmpD, h, k, and_self, if_true]
theorem cm_eq {a b : D} (h : shp a = true) (k : shp b = true) : Cm .eq a b kb ↔ kb (eqD a b) := by unfold Cm; rw [cmp_eq h k]
theorem cm_ne {a b : D} (h : shp a = true) (k : shp b = true) : Cm .ne a b kb ↔ kb (!eqD a b) := by unfold Cm; rw [cmp_ne h k]
theorem cm_eqi : Cm .eq (.int u) (.int v) kb ↔ kb (decide (u = v)) := by rw [cm_eq shp_int shp_int, eqD_int]
theorem cm_nei : Cm .ne (.int u) (.int v) kb ↔ kb (!decide (u = v)) := by rw [cm_ne shp_int shp_int, eqD_int]
theorem cm_lti : Cm .lt (.int u) (.int v) kb ↔ kb (decide (u < v)) := Iff.rfl
theorem cm_lei : Cm .le (.int u) (.int v) kb ↔ kb (decide (u ≤ v)) := Iff.rfl
theorem cm_gti : Cm .gt (.int u) (.int v) kb ↔ kb (decide (v < u)) := Iff.rfl
theorem cm_gei : Cm .ge (.int u) (.int v) kb ↔ kb (decide (v ≤ u)) := Iff.rfl
theorem eqD_str {a b : Str} : eqD (.str a) (.str b) = decide (a = b) := by
  show PyData.eqv (.str a) (.str b) = _
  simp only [PyData.eqv]
  by_cases h : a = b <;> simp [h]
theorem shp_str {a : Str} (h : PyData.strOk a = true) : shp (.str a) = true := by
  unfold shp
  simp only [D.py]
  unfold SeqAt.shaped
  simp only [PyData.canLay0, h, PyData.depth, Bool.true_and]
  rfl
theorem strOk_of (s : String) : PyData.strOk (Str.ofString s) = true := by
  rw [Str.ofString_eq_toList]
  unfold PyData.strOk
  rw [← Array.all_toList, List.all_eq_true]
  intro x hx
  simp only [List.mem_map] at hx
  obtain ⟨c, _, rfl⟩ := hx
  have := c.valid
  simp only [UInt32.isValidChar, Nat.isValidChar] at this
  simp only [Char.toNat, decide_eq_true_eq]
  omega
theorem ofS_inj {a b : String} : (Str.ofString a = Str.ofString b) ↔ a = b := by
  constructor
  · intro h
    rw [Str.ofString_eq_toList, Str.ofString_eq_toList] at h
    have h1 : a.toList.map Char.toNat = b.toList.map Char.toNat := by
      have := congrArg (fun s : Str => s.cps.toList) h
      simpa using this
    have h2 : a.toList = b.toList := (List.map_inj_right fun x y h => Char.ext (UInt32.toNat_inj.mp h)).mp h1
    exact String.ext h2
  · intro h; rw [h]
theorem cm_eqs (ha : PyData.strOk z = true) (hb : PyData.strOk w = true) : Cm .eq (.str z) (.str w) kb ↔ kb (decide (z = w)) := by rw [cm_eq (shp_str ha) (shp_str hb), eqD_str]
theorem cm_nes (ha : PyData.strOk z = true) (hb : PyData.strOk w = true) : Cm .ne (.str z) (.str w) kb ↔ kb (!decide (z = w)) := by rw [cm_ne (shp_str ha) (shp_str hb), eqD_str]
theorem cm_eqS : Cm .eq (.str z) (.str w) kb ↔ kb (decide (z = w)) := by
  unfold Cm
  have : cmpD .eq (.str z) (.str w) = some (decide (z = w)) := by
    simp only [cmpD]
    split
    · rw [eqD_str]
    · rfl
  rw [this]
theorem cm_neS : Cm .ne (.str z) (.str w) kb ↔ kb (!decide (z = w)) := by
  unfold Cm
  have : cmpD .ne (.str z) (.str w) = some (!decide (z = w)) := by
    simp only [cmpD]
    split
    · rw [eqD_str]
    · rfl
  rw [this]
theorem cm_eqw {a b : String} : Cm .eq (.str (Str.ofString a)) (.str (Str.ofString b)) kb ↔ kb (decide (a = b)) := by
  rw [cm_eqs (strOk_of a) (strOk_of b)]; simp only [ofS_inj]
theorem cm_new {a b : String} : Cm .ne (.str (Str.ofString a)) (.str (Str.ofString b)) kb ↔ kb (!decide (a = b)) := by
  rw [cm_nes (strOk_of a) (strOk_of b)]; simp only [ofS_inj]
def In (a b : D) (k : Bool → Prop) (_ : Tg k := ()) : Prop := match inD a b with
  | some r => k r
  | none => False
theorem cm_in {a b : D} : Cm .isin a b kb ↔ In a b kb := Iff.rfl
theorem cm_ni {a b : D} : Cm .notin a b kb ↔ In a b fun t => kb (!t) := by
  unfold Cm In
  simp only [cmpD]
  cases inD a b <;> exact Iff.rfl
theorem cm_isn_n : Cm .is .non .non kb ↔ kb true := Iff.rfl
theorem cm_isn_i : Cm .is (.int u) .non kb ↔ kb false := Iff.rfl
theorem cm_isn_s : Cm .is (.str z) .non kb ↔ kb false := Iff.rfl
theorem cm_isn_t : Cm .is (.tup ds) .non kb ↔ kb false := Iff.rfl
theorem cm_isn_l : Cm .is (.lst ds) .non kb ↔ kb false := Iff.rfl
theorem cm_isn_b {t : Bool} : Cm .is (.bl t) .non kb ↔ kb false := Iff.rfl
theorem cm_nn_n : Cm .isnot .non .non kb ↔ kb false := Iff.rfl
theorem cm_nn_i : Cm .isnot (.int u) .non kb ↔ kb true := Iff.rfl
theorem cm_nn_s : Cm .isnot (.str z) .non kb ↔ kb true := Iff.rfl
theorem cm_nn_t : Cm .isnot (.tup ds) .non kb ↔ kb true := Iff.rfl
theorem cm_nn_l : Cm .isnot (.lst ds) .non kb ↔ kb true := Iff.rfl
theorem cm_is_bb {s t : Bool} : Cm .is (.bl s) (.bl t) kb ↔ kb (decide (s = t)) := Iff.rfl
theorem cm_nn_bb {s t : Bool} : Cm .isnot (.bl s) (.bl t) kb ↔ kb (!decide (s = t)) := Iff.rfl
theorem cm_nn_b {t : Bool} : Cm .isnot (.bl t) .non kb ↔ kb true := Iff.rfl

theorem in_t1 {x x0 : Str} : In (.str x) (.tup [.str x0]) kb ↔ kb (decide (x = x0)) := by
  unfold In; simp only [inD, isFlat, List.all_cons, List.all_nil, Bool.and_self, and_self, if_true, List.any_cons, List.any_nil, eqD_str, Bool.or_false]
  simp only [Bool.decide_or, eq_comm]
theorem in_t2 {x x0 x1 : Str} : In (.str x) (.tup [.str x0, .str x1]) kb ↔ kb (decide (x = x0 ∨ x = x1)) := by
  unfold In; simp only [inD, isFlat, List.all_cons, List.all_nil, Bool.and_self, and_self, if_true, List.any_cons, List.any_nil, eqD_str, Bool.or_false]
  simp only [Bool.decide_or, eq_comm]
theorem in_t3 {x x0 x1 x2 : Str} : In (.str x) (.tup [.str x0, .str x1, .str x2]) kb ↔ kb (decide (x = x0 ∨ x = x1 ∨ x = x2)) := by
  unfold In; simp only [inD, isFlat, List.all_cons, List.all_nil, Bool.and_self, and_self, if_true, List.any_cons, List.any_nil, eqD_str, Bool.or_false]
  simp only [Bool.decide_or, eq_comm]
theorem in_t4 {x x0 x1 x2 x3 : Str} : In (.str x) (.tup [.str x0, .str x1, .str x2, .str x3]) kb ↔ kb (decide (x = x0 ∨ x = x1 ∨ x = x2 ∨ x = x3)) := by
  unfold In; simp only [inD, isFlat, List.all_cons, List.all_nil, Bool.and_self, and_self, if_true, List.any_cons, List.any_nil, eqD_str, Bool.or_false]
  simp only [Bool.decide_or, eq_comm]
theorem in_t5 {x x0 x1 x2 x3 x4 : Str} : In (.str x) (.tup [.str x0, .str x1, .str x2, .str x3, .str x4]) kb ↔ kb (decide (x = x0 ∨ x = x1 ∨ x = x2 ∨ x = x3 ∨ x = x4)) := by
  unfold In; simp only [inD, isFlat, List.all_cons, List.all_nil, Bool.and_self, and_self, if_true, List.any_cons, List.any_nil, eqD_str, Bool.or_false]
  simp only [Bool.decide_or, eq_comm]
theorem in_t6 {x x0 x1 x2 x3 x4 x5 : Str} : In (.str x) (.tup [.str x0, .str x1, .str x2, .str x3, .str x4, .str x5]) kb ↔ kb (decide (x = x0 ∨ x = x1 ∨ x = x2 ∨ x = x3 ∨ x = x4 ∨ x = x5)) := by
  unfold In; simp only [inD, isFlat, List.all_cons, List.all_nil, Bool.and_self, and_self, if_true, List.any_cons, List.any_nil, eqD_str, Bool.or_false]
  simp only [Bool.decide_or, eq_comm]
theorem in_t7 {x x0 x1 x2 x3 x4 x5 x6 : Str} : In (.str x) (.tup [.str x0, .str x1, .str x2, .str x3, .str x4, .str x5, .str x6]) kb ↔ kb (decide (x = x0 ∨ x = x1 ∨ x = x2 ∨ x = x3 ∨ x = x4 ∨ x = x5 ∨ x = x6)) := by
  unfold In; simp only [inD, isFlat, List.all_cons, List.all_nil, Bool.and_self, and_self, if_true, List.any_cons, List.any_nil, eqD_str, Bool.or_false]
  simp only [Bool.decide_or, eq_comm]
theorem in_l1 {x x0 : Str} : In (.str x) (.lst [.str x0]) kb ↔ kb (decide (x = x0)) := by
  unfold In; simp only [inD, isFlat, List.all_cons, List.all_nil, Bool.and_self, and_self, if_true, List.any_cons, List.any_nil, eqD_str, Bool.or_false]
  simp only [Bool.decide_or, eq_comm]
theorem in_l2 {x x0 x1 : Str} : In (.str x) (.lst [.str x0, .str x1]) kb ↔ kb (decide (x = x0 ∨ x = x1)) := by
  unfold In; simp only [inD, isFlat, List.all_cons, List.all_nil, Bool.and_self, and_self, if_true, List.any_cons, List.any_nil, eqD_str, Bool.or_false]
  simp only [Bool.decide_or, eq_comm]
theorem in_l3 {x x0 x1 x2 : Str} : In (.str x) (.lst [.str x0, .str x1, .str x2]) kb ↔ kb (decide (x = x0 ∨ x = x1 ∨ x = x2)) := by
  unfold In; simp only [inD, isFlat, List.all_cons, List.all_nil, Bool.and_self, and_self, if_true, List.any_cons, List.any_nil, eqD_str, Bool.or_false]
  simp only [Bool.decide_or, eq_comm]
theorem in_l4 {x x0 x1 x2 x3 : Str} : In (.str x) (.lst [.str x0, .str x1, .str x2, .str x3]) kb ↔ kb (decide (x = x0 ∨ x = x1 ∨ x = x2 ∨ x = x3)) := by
  unfold In; simp only [inD, isFlat, List.all_cons, List.all_nil, Bool.and_self, and_self, if_true, List.any_cons, List.any_nil, eqD_str, Bool.or_false]
  simp only [Bool.decide_or, eq_comm]
theorem in_l5 {x x0 x1 x2 x3 x4 : Str} : In (.str x) (.lst [.str x0, .str x1, .str x2, .str x3, .str x4]) kb ↔ kb (decide (x = x0 ∨ x = x1 ∨ x = x2 ∨ x = x3 ∨ x = x4)) := by
  unfold In; simp only [inD, isFlat, List.all_cons, List.all_nil, Bool.and_self, and_self, if_true, List.any_cons, List.any_nil, eqD_str, Bool.or_false]
  simp only [Bool.decide_or, eq_comm]
theorem in_l6 {x x0 x1 x2 x3 x4 x5 : Str} : In (.str x) (.lst [.str x0, .str x1, .str x2, .str x3, .str x4, .str x5]) kb ↔ kb (decide (x = x0 ∨ x = x1 ∨ x = x2 ∨ x = x3 ∨ x = x4 ∨ x = x5)) := by
  unfold In; simp only [inD, isFlat, List.all_cons, List.all_nil, Bool.and_self, and_self, if_true, List.any_cons, List.any_nil, eqD_str, Bool.or_false]
  simp only [Bool.decide_or, eq_comm]
theorem in_l7 {x x0 x1 x2 x3 x4 x5 x6 : Str} : In (.str x) (.lst [.str x0, .str x1, .str x2, .str x3, .str x4, .str x5, .str x6]) kb ↔ kb (decide (x = x0 ∨ x = x1 ∨ x = x2 ∨ x = x3 ∨ x = x4 ∨ x = x5 ∨ x = x6)) := by
  unfold In; simp only [inD, isFlat, List.all_cons, List.all_nil, Bool.and_self, and_self, if_true, List.any_cons, List.any_nil, eqD_str, Bool.or_false]
  simp only [Bool.decide_or, eq_comm]
theorem sz_0 {P : Prop} : Sz (List.length ([] : List D)) P ↔ P := sz_le (show 0 ≤ 1000000 by decide)
theorem sz_1 {x0 : D} {P : Prop} : Sz (List.length [x0]) P ↔ P := sz_le (show 1 ≤ 1000000 by decide)
theorem sz_2 {x0 x1 : D} {P : Prop} : Sz (List.length [x0, x1]) P ↔ P := sz_le (show 2 ≤ 1000000 by decide)
theorem sz_3 {x0 x1 x2 : D} {P : Prop} : Sz (List.length [x0, x1, x2]) P ↔ P := sz_le (show 3 ≤ 1000000 by decide)
theorem sz_4 {x0 x1 x2 x3 : D} {P : Prop} : Sz (List.length [x0, x1, x2, x3]) P ↔ P := sz_le (show 4 ≤ 1000000 by decide)
theorem sz_5 {x0 x1 x2 x3 x4 : D} {P : Prop} : Sz (List.length [x0, x1, x2, x3, x4]) P ↔ P := sz_le (show 5 ≤ 1000000 by decide)
theorem sz_6 {x0 x1 x2 x3 x4 x5 : D} {P : Prop} : Sz (List.length [x0, x1, x2, x3, x4, x5]) P ↔ P := sz_le (show 6 ≤ 1000000 by decide)
theorem sz_7 {x0 x1 x2 x3 x4 x5 x6 : D} {P : Prop} : Sz (List.length [x0, x1, x2, x3, x4, x5, x6]) P ↔ P := sz_le (show 7 ≤ 1000000 by decide)
theorem sz_8 {x0 x1 x2 x3 x4 x5 x6 x7 : D} {P : Prop} : Sz (List.length [x0, x1, x2, x3, x4, x5, x6, x7]) P ↔ P := sz_le (show 8 ≤ 1000000 by decide)
theorem sz_9 {x0 x1 x2 x3 x4 x5 x6 x7 x8 : D} {P : Prop} : Sz (List.length [x0, x1, x2, x3, x4, x5, x6, x7, x8]) P ↔ P := sz_le (show 9 ≤ 1000000 by decide)
theorem sz_10 {x0 x1 x2 x3 x4 x5 x6 x7 x8 x9 : D} {P : Prop} : Sz (List.length [x0, x1, x2, x3, x4, x5, x6, x7, x8, x9]) P ↔ P := sz_le (show 10 ≤ 1000000 by decide)
theorem sz_11 {x0 x1 x2 x3 x4 x5 x6 x7 x8 x9 x10 : D} {P : Prop} : Sz (List.length [x0, x1, x2, x3, x4, x5, x6, x7, x8, x9, x10]) P ↔ P := sz_le (show 11 ≤ 1000000 by decide)
theorem sz_12 {x0 x1 x2 x3 x4 x5 x6 x7 x8 x9 x10 x11 : D} {P : Prop} : Sz (List.length [x0, x1, x2, x3, x4, x5, x6, x7, x8, x9, x10, x11]) P ↔ P := sz_le (show 12 ≤ 1000000 by decide)
theorem ix_t : Ix (.tup ds) (.int u) μ Q ↔ Ata ds u fun d => Q (.v d) μ := by
  unfold Ix Wq idxM Ata; simp only [idxD]; cases atI ds u <;> exact Iff.rfl
theorem ix_l : Ix (.lst ds) (.int u) μ Q ↔ Ata ds u fun d => Q (.v d) μ := by
  unfold Ix Wq idxM Ata; simp only [idxD]; cases atI ds u <;> exact Iff.rfl
theorem at_0 {x0 : D} : Ata (x0 :: ds) 0 k ↔ k x0 := by
  unfold Ata atI ixN
  rw [if_pos (by decide), if_pos (by simp only [List.length_cons]; omega)]; exact Iff.rfl
theorem at_1 {x0 x1 : D} : Ata (x0 :: x1 :: ds) 1 k ↔ k x1 := by
  unfold Ata atI ixN
  rw [if_pos (by decide), if_pos (by simp only [List.length_cons]; omega)]; exact Iff.rfl
theorem at_2 {x0 x1 x2 : D} : Ata (x0 :: x1 :: x2 :: ds) 2 k ↔ k x2 := by
  unfold Ata atI ixN
  rw [if_pos (by decide), if_pos (by simp only [List.length_cons]; omega)]; exact Iff.rfl
theorem at_3 {x0 x1 x2 x3 : D} : Ata (x0 :: x1 :: x2 :: x3 :: ds) 3 k ↔ k x3 := by
  unfold Ata atI ixN
  rw [if_pos (by decide), if_pos (by simp only [List.length_cons]; omega)]; exact Iff.rfl
theorem at_4 {x0 x1 x2 x3 x4 : D} : Ata (x0 :: x1 :: x2 :: x3 :: x4 :: ds) 4 k ↔ k x4 := by
  unfold Ata atI ixN
  rw [if_pos (by decide), if_pos (by simp only [List.length_cons]; omega)]; exact Iff.rfl
theorem at_5 {x0 x1 x2 x3 x4 x5 : D} : Ata (x0 :: x1 :: x2 :: x3 :: x4 :: x5 :: ds) 5 k ↔ k x5 := by
  unfold Ata atI ixN
  rw [if_pos (by decide), if_pos (by simp only [List.length_cons]; omega)]; exact Iff.rfl
theorem at_6 {x0 x1 x2 x3 x4 x5 x6 : D} : Ata (x0 :: x1 :: x2 :: x3 :: x4 :: x5 :: x6 :: ds) 6 k ↔ k x6 := by
  unfold Ata atI ixN
  rw [if_pos (by decide), if_pos (by simp only [List.length_cons]; omega)]; exact Iff.rfl
theorem at_7 {x0 x1 x2 x3 x4 x5 x6 x7 : D} : Ata (x0 :: x1 :: x2 :: x3 :: x4 :: x5 :: x6 :: x7 :: ds) 7 k ↔ k x7 := by
  unfold Ata atI ixN
  rw [if_pos (by decide), if_pos (by simp only [List.length_cons]; omega)]; exact Iff.rfl
theorem at_m1_1 {x0 : D} : Ata [x0] (-1) k ↔ k x0 := Iff.rfl
theorem at_m1_2 {x0 x1 : D} : Ata [x0, x1] (-1) k ↔ k x1 := Iff.rfl
theorem at_m1_3 {x0 x1 x2 : D} : Ata [x0, x1, x2] (-1) k ↔ k x2 := Iff.rfl
theorem at_m1_4 {x0 x1 x2 x3 : D} : Ata [x0, x1, x2, x3] (-1) k ↔ k x3 := Iff.rfl
theorem at_m1_5 {x0 x1 x2 x3 x4 : D} : Ata [x0, x1, x2, x3, x4] (-1) k ↔ k x4 := Iff.rfl
theorem at_m1_6 {x0 x1 x2 x3 x4 x5 : D} : Ata [x0, x1, x2, x3, x4, x5] (-1) k ↔ k x5 := Iff.rfl
theorem at_m1_7 {x0 x1 x2 x3 x4 x5 x6 : D} : Ata [x0, x1, x2, x3, x4, x5, x6] (-1) k ↔ k x6 := Iff.rfl
theorem at_m2_2 {x0 x1 : D} : Ata [x0, x1] (-2) k ↔ k x0 := Iff.rfl
theorem at_m2_3 {x0 x1 x2 : D} : Ata [x0, x1, x2] (-2) k ↔ k x1 := Iff.rfl
theorem at_m2_4 {x0 x1 x2 x3 : D} : Ata [x0, x1, x2, x3] (-2) k ↔ k x2 := Iff.rfl
theorem at_m2_5 {x0 x1 x2 x3 x4 : D} : Ata [x0, x1, x2, x3, x4] (-2) k ↔ k x3 := Iff.rfl
theorem at_m2_6 {x0 x1 x2 x3 x4 x5 : D} : Ata [x0, x1, x2, x3, x4, x5] (-2) k ↔ k x4 := Iff.rfl
theorem at_m2_7 {x0 x1 x2 x3 x4 x5 x6 : D} : Ata [x0, x1, x2, x3, x4, x5, x6] (-2) k ↔ k x5 := Iff.rfl
theorem at_m3_3 {x0 x1 x2 : D} : Ata [x0, x1, x2] (-3) k ↔ k x0 := Iff.rfl
theorem at_m3_4 {x0 x1 x2 x3 : D} : Ata [x0, x1, x2, x3] (-3) k ↔ k x1 := Iff.rfl
theorem at_m3_5 {x0 x1 x2 x3 x4 : D} : Ata [x0, x1, x2, x3, x4] (-3) k ↔ k x2 := Iff.rfl
theorem at_m3_6 {x0 x1 x2 x3 x4 x5 : D} : Ata [x0, x1, x2, x3, x4, x5] (-3) k ↔ k x3 := Iff.rfl
theorem at_m3_7 {x0 x1 x2 x3 x4 x5 x6 : D} : Ata [x0, x1, x2, x3, x4, x5, x6] (-3) k ↔ k x4 := Iff.rfl
theorem ata_ok {K : D → Prop} (h0 : 0 ≤ u) (h1 : u < ds.length) (q : ∀ d ∈ ds, ds[u.toNat]? = some d → K d) : Ata ds u K := by
  have h : u.toNat < ds.length := by omega
  unfold Ata atI ixN
  rw [if_pos h0, if_pos h1]
  simp only [Option.bind_some, List.getElem?_eq_getElem h]
  exact q _ (List.getElem_mem h) (List.getElem?_eq_getElem h)
theorem ata_of {K : D → Prop} (h0 : 0 ≤ u) (h : ds[u.toNat]? = some d) : Ata ds u K ↔ K d := by
  have h1 : u < ds.length := by
    by_cases h1 : u.toNat < ds.length
    · omega
    · rw [List.getElem?_eq_none (by omega)] at h; cases h
  unfold Ata atI ixN
  rw [if_pos h0, if_pos h1]
  simp only [Option.bind_some, h]
theorem sc_t {l h : Option Int} : Sc (.tup ds) l h kk ↔ kk (.v (.tup (cutD ds l h))) := Iff.rfl
theorem sc_l {l h : Option Int} : Sc (.lst ds) l h kk ↔ kk (.fr (cutD ds l h)) := Iff.rfl
theorem cut_to {α : Type} {xs : List α} {a : Int} (h0 : 0 ≤ a) : cutD xs none (some a) = xs.take a.toNat := by
  unfold cutD
  have : HT.sIx xs.length xs.length (some a) = min a.toNat xs.length := by
    show (if a < 0 then _ else min a.toNat xs.length) = _
    rw [if_neg (by omega)]
  rw [this, HT.sIx_none, Nat.sub_zero, List.drop_zero]
  by_cases h : a.toNat ≤ xs.length
  · rw [Nat.min_eq_left h]
  · rw [Nat.min_eq_right (by omega), List.take_of_length_le (Nat.le_refl _), List.take_of_length_le (by omega)]
theorem cut_from {α : Type} {xs : List α} {a : Int} (h0 : 0 ≤ a) : cutD xs (some a) none = xs.drop a.toNat := by
  unfold cutD
  have : HT.sIx xs.length 0 (some a) = min a.toNat xs.length := by
    show (if a < 0 then _ else min a.toNat xs.length) = _
    rw [if_neg (by omega)]
  rw [this, HT.sIx_none]
  by_cases h : a.toNat ≤ xs.length
  · rw [Nat.min_eq_left h, List.take_of_length_le (by rw [List.length_drop]; exact Nat.le_refl _)]
  · rw [Nat.min_eq_right (by omega), List.drop_of_length_le (Nat.le_refl _), List.drop_of_length_le (by omega), List.take_nil]
theorem cut_to_n {α : Type} {xs : List α} {a : Nat} : cutD xs none (some (a : Int)) = xs.take a := cut_to (by omega)
theorem cut_from_n {α : Type} {xs : List α} {a : Nat} : cutD xs (some (a : Int)) none = xs.drop a := cut_from (by omega)
theorem cut_from_1 {α : Type} {x : α} {xs : List α} : cutD (x :: xs) (some 1) none = xs := by rw [cut_from (by decide)]; rfl
theorem cut_to_1 {α : Type} {x : α} {xs : List α} : cutD (x :: xs) none (some 1) = [x] := by rw [cut_to (by decide)]; rfl
theorem cut_from_m1 {α : Type} {x : α} {xs : List α} : cutD (xs ++ [x]) (some (-1)) none = [x] := by
  show ((xs ++ [x]).drop (HT.sIx (xs ++ [x]).length 0 (some (-1)))).take ((xs ++ [x]).length - HT.sIx (xs ++ [x]).length 0 (some (-1))) = _
  have e1 : HT.sIx (xs ++ [x]).length 0 (some (-1)) = xs.length := by
    unfold HT.sIx; simp only [Int.reduceNeg, List.length_append, List.length_singleton]; simp; omega
  rw [e1, List.drop_left, List.length_append, List.length_singleton, Nat.add_sub_cancel_left]; rfl
theorem cut_to_m1 {α : Type} {xs : List α} : cutD xs none (some (-1)) = xs.dropLast := by
  unfold cutD
  have e1 : HT.sIx xs.length xs.length (some (-1)) = xs.length - 1 := by
    unfold HT.sIx; simp only [Int.reduceNeg]; simp; omega
  rw [e1]
  show (xs.drop 0).take (xs.length - 1 - 0) = _
  rw [List.drop_zero, Nat.sub_zero, List.dropLast_eq_take]
theorem cut_m1_1 {x0 : D} : cutD [x0] none (some (-1)) = [] := rfl
theorem cut_m1_2 {x0 x1 : D} : cutD [x0, x1] none (some (-1)) = [x0] := rfl
theorem cut_m1_3 {x0 x1 x2 : D} : cutD [x0, x1, x2] none (some (-1)) = [x0, x1] := rfl
theorem cut_m1_4 {x0 x1 x2 x3 : D} : cutD [x0, x1, x2, x3] none (some (-1)) = [x0, x1, x2] := rfl
theorem cut_m1_5 {x0 x1 x2 x3 x4 : D} : cutD [x0, x1, x2, x3, x4] none (some (-1)) = [x0, x1, x2, x3] := rfl
theorem cut_m1_6 {x0 x1 x2 x3 x4 x5 : D} : cutD [x0, x1, x2, x3, x4, x5] none (some (-1)) = [x0, x1, x2, x3, x4] := rfl
theorem cut_m1_7 {x0 x1 x2 x3 x4 x5 x6 : D} : cutD [x0, x1, x2, x3, x4, x5, x6] none (some (-1)) = [x0, x1, x2, x3, x4, x5] := rfl
theorem cut_m2_2 {x0 x1 : D} : cutD [x0, x1] none (some (-2)) = [] := rfl
theorem cut_m2_3 {x0 x1 x2 : D} : cutD [x0, x1, x2] none (some (-2)) = [x0] := rfl
theorem cut_m2_4 {x0 x1 x2 x3 : D} : cutD [x0, x1, x2, x3] none (some (-2)) = [x0, x1] := rfl
theorem cut_m2_5 {x0 x1 x2 x3 x4 : D} : cutD [x0, x1, x2, x3, x4] none (some (-2)) = [x0, x1, x2] := rfl
theorem cut_m2_6 {x0 x1 x2 x3 x4 x5 : D} : cutD [x0, x1, x2, x3, x4, x5] none (some (-2)) = [x0, x1, x2, x3] := rfl
theorem cut_m2_7 {x0 x1 x2 x3 x4 x5 x6 : D} : cutD [x0, x1, x2, x3, x4, x5, x6] none (some (-2)) = [x0, x1, x2, x3, x4] := rfl
theorem cut_m3_3 {x0 x1 x2 : D} : cutD [x0, x1, x2] none (some (-3)) = [] := rfl
theorem cut_m3_4 {x0 x1 x2 x3 : D} : cutD [x0, x1, x2, x3] none (some (-3)) = [x0] := rfl
theorem cut_m3_5 {x0 x1 x2 x3 x4 : D} : cutD [x0, x1, x2, x3, x4] none (some (-3)) = [x0, x1] := rfl
theorem cut_m3_6 {x0 x1 x2 x3 x4 x5 : D} : cutD [x0, x1, x2, x3, x4, x5] none (some (-3)) = [x0, x1, x2] := rfl
theorem cut_m3_7 {x0 x1 x2 x3 x4 x5 x6 : D} : cutD [x0, x1, x2, x3, x4, x5, x6] none (some (-3)) = [x0, x1, x2, x3] := rfl
/-! built-in functions -/
theorem ln_cons : decide (((d :: ds).length : Int) = 0) = false := by rw [decide_eq_false]; simp only [List.length_cons]; omega
theorem ln_nil : decide ((([] : List D).length : Int) = 0) = true := rfl
theorem ln_consp : decide ((0 : Int) < ((d :: ds).length : Int)) = true := by rw [decide_eq_true]; simp only [List.length_cons]; omega
theorem ln_nilp : decide ((0 : Int) < (([] : List D).length : Int)) = false := rfl
theorem ln_nil2 : decide ((([] : List D).length : Int) = 2) = false := rfl
theorem ln_2 {x y : D} : decide ((([x, y] : List D).length : Int) = 2) = true := rfl
theorem bl_len_t : Bl .len [.tup ds] μ Q ↔ Q (.v (.int ds.length)) μ := Iff.rfl
theorem bl_len_l : Bl .len [.lst ds] μ Q ↔ Q (.v (.int ds.length)) μ := Iff.rfl
theorem bl_len_s (h : z.length ≤ 1000000) : Bl .len [.str z] μ Q ↔ Q (.v (.int z.length)) μ := by
  unfold Bl Wq bltM; simp only [bltD, if_pos (show z.length ≤ sizeLine by rw [sizeLine_eq]; omega)]; exact Iff.rfl
theorem bl_tup_l : Bl .tuple [.lst ds] μ Q ↔ Q (.v (.tup ds)) μ := Iff.rfl
theorem bl_tup_t : Bl .tuple [.tup ds] μ Q ↔ Q (.v (.tup ds)) μ := Iff.rfl
theorem bl_list_l : Bl .list [.lst ds] μ Q ↔ Q (.fr ds) μ := Iff.rfl
theorem bl_list_t : Bl .list [.tup ds] μ Q ↔ Q (.fr ds) μ := Iff.rfl
theorem bl_int_i : Bl .int [.int u] μ Q ↔ Q (.v (.int u)) μ := Iff.rfl
theorem bl_int_b {t : Bool} : Bl .int [.bl t] μ Q ↔ Q (.v (.int (if t then 1 else 0))) μ := Iff.rfl
theorem bl_abs : Bl .abs [.int u] μ Q ↔ Q (.v (.int (if u < 0 then -u else u))) μ := Iff.rfl
theorem bl_max2 : Bl .max2 [.int u, .int v] μ Q ↔ Q (.v (.int (if v > u then v else u))) μ := Iff.rfl
theorem bl_min2 : Bl .min2 [.int u, .int v] μ Q ↔ Q (.v (.int (if v < u then v else u))) μ := Iff.rfl

theorem bl_isTuple_t : Bl .isTuple [.tup ds] μ Q ↔ Q (.v (.bl true)) μ := Iff.rfl
theorem bl_isTuple_s : Bl .isTuple [.str z] μ Q ↔ Q (.v (.bl false)) μ := Iff.rfl
theorem bl_isTuple_i : Bl .isTuple [.int u] μ Q ↔ Q (.v (.bl false)) μ := Iff.rfl
theorem bl_isTuple_b {t : Bool} : Bl .isTuple [.bl t] μ Q ↔ Q (.v (.bl false)) μ := Iff.rfl
theorem bl_isTuple_n : Bl .isTuple [.non] μ Q ↔ Q (.v (.bl false)) μ := Iff.rfl
theorem bl_isTuple_l : Bl .isTuple [.lst ds] μ Q ↔ Q (.v (.bl false)) μ := Iff.rfl
theorem bl_isStr_t : Bl .isStr [.tup ds] μ Q ↔ Q (.v (.bl false)) μ := Iff.rfl
theorem bl_isStr_s : Bl .isStr [.str z] μ Q ↔ Q (.v (.bl true)) μ := Iff.rfl
theorem bl_isStr_i : Bl .isStr [.int u] μ Q ↔ Q (.v (.bl false)) μ := Iff.rfl
theorem bl_isStr_b {t : Bool} : Bl .isStr [.bl t] μ Q ↔ Q (.v (.bl false)) μ := Iff.rfl
theorem bl_isStr_n : Bl .isStr [.non] μ Q ↔ Q (.v (.bl false)) μ := Iff.rfl
theorem bl_isStr_l : Bl .isStr [.lst ds] μ Q ↔ Q (.v (.bl false)) μ := Iff.rfl
theorem bl_isInt_t : Bl .isInt [.tup ds] μ Q ↔ Q (.v (.bl false)) μ := Iff.rfl
theorem bl_isInt_s : Bl .isInt [.str z] μ Q ↔ Q (.v (.bl false)) μ := Iff.rfl
theorem bl_isInt_i : Bl .isInt [.int u] μ Q ↔ Q (.v (.bl true)) μ := Iff.rfl
theorem bl_isInt_b {t : Bool} : Bl .isInt [.bl t] μ Q ↔ Q (.v (.bl true)) μ := Iff.rfl
theorem bl_isInt_n : Bl .isInt [.non] μ Q ↔ Q (.v (.bl false)) μ := Iff.rfl
theorem bl_isInt_l : Bl .isInt [.lst ds] μ Q ↔ Q (.v (.bl false)) μ := Iff.rfl
theorem bl_isBool_t : Bl .isBool [.tup ds] μ Q ↔ Q (.v (.bl false)) μ := Iff.rfl
theorem bl_isBool_s : Bl .isBool [.str z] μ Q ↔ Q (.v (.bl false)) μ := Iff.rfl
theorem bl_isBool_i : Bl .isBool [.int u] μ Q ↔ Q (.v (.bl false)) μ := Iff.rfl
theorem bl_isBool_b {t : Bool} : Bl .isBool [.bl t] μ Q ↔ Q (.v (.bl true)) μ := Iff.rfl
theorem bl_isBool_n : Bl .isBool [.non] μ Q ↔ Q (.v (.bl false)) μ := Iff.rfl
theorem bl_isBool_l : Bl .isBool [.lst ds] μ Q ↔ Q (.v (.bl false)) μ := Iff.rfl
theorem bl_isList_t : Bl .isList [.tup ds] μ Q ↔ Q (.v (.bl false)) μ := Iff.rfl
theorem bl_isList_s : Bl .isList [.str z] μ Q ↔ Q (.v (.bl false)) μ := Iff.rfl
theorem bl_isList_i : Bl .isList [.int u] μ Q ↔ Q (.v (.bl false)) μ := Iff.rfl
theorem bl_isList_b {t : Bool} : Bl .isList [.bl t] μ Q ↔ Q (.v (.bl false)) μ := Iff.rfl
theorem bl_isList_n : Bl .isList [.non] μ Q ↔ Q (.v (.bl false)) μ := Iff.rfl
theorem bl_isList_l : Bl .isList [.lst ds] μ Q ↔ Q (.v (.bl true)) μ := Iff.rfl
theorem bl_isLT_t : Bl .isLT [.tup ds] μ Q ↔ Q (.v (.bl true)) μ := Iff.rfl
theorem bl_isLT_s : Bl .isLT [.str z] μ Q ↔ Q (.v (.bl false)) μ := Iff.rfl
theorem bl_isLT_i : Bl .isLT [.int u] μ Q ↔ Q (.v (.bl false)) μ := Iff.rfl
theorem bl_isLT_b {t : Bool} : Bl .isLT [.bl t] μ Q ↔ Q (.v (.bl false)) μ := Iff.rfl
theorem bl_isLT_n : Bl .isLT [.non] μ Q ↔ Q (.v (.bl false)) μ := Iff.rfl
theorem bl_isLT_l : Bl .isLT [.lst ds] μ Q ↔ Q (.v (.bl true)) μ := Iff.rfl
theorem bls_true {os : List D} (h : ∀ d ∈ os, d = .bl true) : blsD os = some (os.map fun _ => true) := by
  induction os with
  | nil => rfl
  | cons d r ih =>
    rw [h d List.mem_cons_self]
    simp only [blsD, ih fun d hd => h d (List.mem_cons_of_mem _ hd), List.map_cons, Option.map_some]
theorem bl_all_true {os : List D} (h : ∀ d ∈ os, d = .bl true) : Bl .all [.lst os] μ Q ↔ Q (.v (.bl true)) μ := by
  have : (os.map fun _ => true).all id = true := by rw [List.all_map]; exact List.all_eq_true.mpr fun _ _ => rfl
  unfold Bl Wq bltM
  simp only [bltD, bls_true h, Option.map_some, this]; exact Iff.rfl
theorem bl_repr {z : Str} (h : reprD d = some z) : Bl .repr [d] μ Q ↔ Q (.v (.str z)) μ := by
  unfold Bl Wq bltM
  have : bltD .repr [d] = some (.v (.str z)) := by
    show (reprD d).map (fun z => RV.v (.str z)) = _
    rw [h]; rfl
  simp only [this]; exact Iff.rfl
theorem blsD_map {α : Type} {f : α → Bool} {as : List α} : blsD (as.map fun a => .bl (f a)) = some (as.map f) := by
  induction as with
  | nil => rfl
  | cons a r ih => simp only [List.map_cons, blsD, ih, Option.map_some]
theorem bl_all {α : Type} {f : α → Bool} {as : List α} : Bl .all [.lst (as.map fun a => .bl (f a))] μ Q ↔ Q (.v (.bl (as.all f))) μ := by
  unfold Bl Wq bltM
  simp only [bltD, blsD_map, Option.map_some, List.all_map]; exact Iff.rfl
theorem bl_any {α : Type} {f : α → Bool} {as : List α} : Bl .any [.lst (as.map fun a => .bl (f a))] μ Q ↔ Q (.v (.bl (as.any f))) μ := by
  unfold Bl Wq bltM
  simp only [bltD, blsD_map, Option.map_some, List.any_map]; exact Iff.rfl
theorem intsD_map {α : Type} {f : α → Int} {as : List α} : intsD (as.map fun a => .int (f a)) = some (as.map f) := by
  induction as with
  | nil => rfl
  | cons a r ih => simp only [List.map_cons, intsD, ih, Option.map_some]
theorem bl_sum {α : Type} {f : α → Int} {as : List α} : Bl .sum [.lst (as.map fun a => .int (f a))] μ Q ↔ Q (.v (.int (as.map f).sum)) μ := by
  unfold Bl Wq bltM
  simp only [bltD, intsD_map, Option.map_some]; exact Iff.rfl
/-! lists that are changed -/
theorem il_bo {K : Sto → Prop} : Il (.bo i ds) μ K ↔ K μ := Iff.rfl
theorem il_ref {K : Sto → Prop} (h : μ[n]? = some (.lst ds)) : Il (.v (.ref n)) μ K ↔ K μ := by unfold Il Wq isLst; simp only [h]
theorem xm_bo {es : List D} (h : ds.length + es.length ≤ 1000000) : Xm ρ (.bo i ds) es μ S ↔ Sw ρ i (.own (ds ++ es)) fun ρ1 => S (.nx ρ1) μ := by
  unfold Xm
  have : extM ρ (.bo i ds) es = M.pure (.nx (ρ.set i (.own (ds ++ es)))) := by
    show (if ds.length + es.length ≤ sizeLine then _ else _) = _
    rw [if_pos (show ds.length + es.length ≤ sizeLine by rw [sizeLine_eq]; omega)]
  rw [this]; exact Iff.rfl
theorem xm_bo1 (h : ds.length + 1 ≤ 1000000) : Xm ρ (.bo i ds) [d] μ S ↔ Sw ρ i (.own (ds ++ [d])) fun ρ1 => S (.nx ρ1) μ := xm_bo h
theorem xm_ref {es : List D} (h : μ[n]? = some (.lst ds)) (hl : ds.length + es.length ≤ 1000000) : Xm ρ (.v (.ref n)) es μ S ↔ S (.nx ρ) (μ.set n (.lst (ds ++ es))) := by
  unfold Xm Wq extM; simp only [h]; rw [if_pos (show ds.length + es.length ≤ sizeLine by rw [sizeLine_eq]; omega)]
theorem xm_ref1 (h : μ[n]? = some (.lst ds)) (hl : ds.length + 1 ≤ 1000000) : Xm ρ (.v (.ref n)) [d] μ S ↔ S (.nx ρ) (μ.set n (.lst (ds ++ [d]))) := xm_ref h hl
theorem ix_ref (h : μ[n]? = some (.lst ds)) : Ix (.ref n) (.int u) μ Q ↔ Ata ds u fun d => Q (.v d) μ := by
  unfold Ix Wq idxM Ata; simp only [h, idxD]; cases atI ds u <;> exact Iff.rfl
theorem ix_dk {kvs : List (Key × D)} {i : D} {key : Key} (h : μ[n]? = some (.dct kvs)) (hk : keyD i = some key) (hf : findK kvs key = some d) : Ix (.ref n) i μ Q ↔ Q (.v d) μ := by
  unfold Ix Wq idxM; simp only [h, hk, Option.bind_some, hf, Option.map_some]
theorem bl_len_ref (h : μ[n]? = some (.lst ds)) : Bl .len [.ref n] μ Q ↔ Q (.v (.int ds.length)) μ := by unfold Bl Wq bltM; simp only [h]
theorem bl_tup_ref (h : μ[n]? = some (.lst ds)) : Bl .tuple [.ref n] μ Q ↔ Q (.v (.tup ds)) μ := by unfold Bl Wq bltM; simp only [h]
theorem bl_list_ref (h : μ[n]? = some (.lst ds)) : Bl .list [.ref n] μ Q ↔ Q (.fr ds) μ := by unfold Bl Wq bltM; simp only [h]
theorem mc_pop {K : Sto → Prop} (h : μ[n]? = some (.lst ds)) : Mc .pop (.ref n) μ K ↔ K μ := by unfold Mc Wq chkM; simp only [h]
theorem mc_popAt {K : Sto → Prop} (h : μ[n]? = some (.lst ds)) : Mc .popAt (.ref n) μ K ↔ K μ := by unfold Mc Wq chkM; simp only [h]
theorem mc_get {K : Sto → Prop} {kvs : List (Key × D)} (h : μ[n]? = some (.dct kvs)) : Mc .get (.ref n) μ K ↔ K μ := by unfold Mc Wq chkM; simp only [h]
theorem mc_join {K : Sto → Prop} : Mc .join (.str z) μ K ↔ K μ := Iff.rfl
theorem mc_split {K : Sto → Prop} : Mc .split (.str z) μ K ↔ K μ := Iff.rfl
theorem mc_sindex {K : Sto → Prop} : Mc .sindex (.str z) μ K ↔ K μ := Iff.rfl
theorem mc_index {K : Sto → Prop} : Mc .index (.lst ds) μ K ↔ K μ := Iff.rfl
theorem mt_str {m : Mth} {rv : RV} (h : methD m (.str z) ds = some rv) : Mt m (.str z) ds μ Q ↔ Q rv μ := by
  unfold Mt Wq methM; simp only [h]; exact Iff.rfl
theorem mt_pop {q : List D} (h : μ[n]? = some (.lst (q ++ [d]))) : Mt .pop (.ref n) [] μ Q ↔ Q (.v d) (μ.set n (.lst q)) := by
  unfold Mt Wq methM; simp only [h, List.getLast?_concat, List.dropLast_concat]
theorem pm_ref {d' : D} {xs' : List D} {i : D} (h : μ[n]? = some (.lst ds)) (hs : setD ds i d' = some xs') : Pm ρ (.v (.ref n)) i d' μ S ↔ S (.nx ρ) (μ.set n (.lst xs')) := by
  unfold Pm Wq putM; simp only [h, hs, Option.map_some]
theorem pm_dct {d' i : D} {kvs : List (Key × D)} {key : Key} (h : μ[n]? = some (.dct kvs)) (hk : keyD i = some key) (hl : kvs.length ≤ 1000) : Pm ρ (.v (.ref n)) i d' μ S ↔ S (.nx ρ) (μ.set n (.dct (setK kvs key d'))) := by
  unfold Pm Wq putM; simp only [h, hk, Option.bind_some, if_pos (show kvs.length < sizeLine by rw [sizeLine_eq]; omega)]
theorem pm_bo {d' : D} {xs' : List D} {u : D} (hs : setD ds u d' = some xs') : Pm ρ (.bo i ds) u d' μ S ↔ Sw ρ i (.own xs') fun ρ1 => S (.nx ρ1) μ := by
  unfold Pm putM; simp only [hs]; exact Iff.rfl
theorem im_ref {d' : D} (h : μ[n]? = some (.lst ds)) (hl : ds.length + 1 ≤ 1000000) (h0 : 0 ≤ u) (h1 : u < 1000000000000) : Im ρ (.v (.ref n)) (.int u) d' μ S ↔ S (.nx ρ) (μ.set n (.lst (ds.take u.toNat ++ [d'] ++ ds.drop u.toNat))) := by
  unfold Im Wq insM; simp only [h]; rw [if_pos ⟨by rw [sizeLine_eq]; omega, h0, by omega⟩]
theorem gm_ref {f : List D → List D} (h : μ[n]? = some (.lst ds)) : Gm ρ (.v (.ref n)) f μ S ↔ S (.nx ρ) (μ.set n (.lst (f ds))) := by
  unfold Gm Wq chgM; simp only [h]
theorem setD_ok {xs : List D} {u : Int} {y : D} (h0 : 0 ≤ u) (h1 : u < xs.length) : setD xs (.int u) y = some (xs.set u.toNat y) := by
  simp only [setD, ixN, if_pos h0, if_pos h1, Option.map_some]
end
/-! ### calls, loops, comprehensions -/
section
variable {Pr : FT} {g : GT} {C : Calls} {K f : Nat} {μ : Sto} {Q : RV → Sto → Prop} {E : XQ} {ds : List D} {ρ : Env} {S : Flo → Sto → Prop}
theorem wp_call {F : Fn} (e : atT Pr f = some F) (hl : ds.length = F.np) : Wp (callP Pr g (K + 1) f ds) μ Q E ↔ Rs (callP Pr g K) g F.body (start F ds) μ (FinQ Q E ()) := by
  simp only [callP, e, if_pos hl]
  rw [wp_bind, wp_noex]
  unfold Rs
  exact wq_congr rfl fun fl μ1 => by cases fl <;> exact Iff.rfl
/-- a loop, by an invariant -/
theorem each_inv {t : T} {b : List J.S} (I : List D → Env → Sto → Prop) (h : ∀ d r ρ μ, I (d :: r) ρ μ → Bt t d ρ fun ρ1 => Rs C g b ρ1 μ fun fl μ1 => match fl with
      | .nx ρ2 => I r ρ2 μ1
      | .ct ρ2 => I r ρ2 μ1
      | y => S y μ1) (h0 : ∀ ρ μ, I [] ρ μ → S (.nx ρ) μ) : ∀ {ds : List D} {ρ : Env} {μ : Sto}, I ds ρ μ → Each C g t b ds ρ μ S
  | [], ρ, μ, i => each_nil.mpr (h0 ρ μ i)
  | d :: ds, ρ, μ, i => by
    rw [each_cons]
    have := h d ds ρ μ i
    unfold Bt at this ⊢
    split at this
    · refine Wp.mono (Q' := KE C g t b ds S ()) this (fun fl μ1 q => ?_) fun _ _ q => q
      cases fl with
      | nx ρ1 => exact each_inv I h h0 q
      | ct ρ1 => exact each_inv I h h0 q
      | rt r => exact q
      | ex y ρ1 => exact q
    · exact this
/-- a loop without a break out of it: what is left of a fold -/
theorem whl_inv {c : J.E} {b : List J.S} (I : Nat → Env → Sto → Prop) {n : Nat} (hn : n < 10 ^ 60) (i0 : I n ρ μ)
    (h : ∀ n ρ μ, I n ρ μ → Wt C g c ρ μ (fun t μ1 => Br t (Rs C g b ρ μ1 (fun fl μ2 => match fl with
      | .nx ρ1 => ∃ m, m < n ∧ I m ρ1 μ2
      | .ct ρ1 => ∃ m, m < n ∧ I m ρ1 μ2
      | y => S y μ2)) (S (.nx ρ) μ1)) nE) : Whl C g c b ρ μ S := by
  have key : ∀ n N ρ μ, n < N → I n ρ μ → Wp (fun μ => loopF (whlStep (fun ρ => evalT C g c ρ) (fun ρ => evalSs C g b ρ)) N (ρ, μ)) μ S nE := by
    intro n
    induction n using Nat.strongRecOn with
    | _ n ih =>
      intro N ρ μ hN i
      cases N with
      | zero => omega
      | succ N =>
        obtain ⟨t, μ1, e1, q⟩ := Wp.ok (h n ρ μ i)
        cases t with
        | false => exact Wp.of (a := .nx ρ) (μ' := μ1) (by simp only [loopF, whlStep, e1]) q
        | true =>
          obtain ⟨fl, μ2, e2, q⟩ := Wp.ok (show Wp _ _ _ nE from q)
          cases fl with
          | nx ρ1 =>
            obtain ⟨m, hm, i2⟩ := q
            obtain ⟨f3, μ3, e3, q3⟩ := (ih m hm N ρ1 μ2 (by omega) i2).ok
            exact Wp.of (a := f3) (μ' := μ3) (by simp only [loopF, whlStep, e1, e2]; exact e3) q3
          | ct ρ1 =>
            obtain ⟨m, hm, i2⟩ := q
            obtain ⟨f3, μ3, e3, q3⟩ := (ih m hm N ρ1 μ2 (by omega) i2).ok
            exact Wp.of (a := f3) (μ' := μ3) (by simp only [loopF, whlStep, e1, e2]; exact e3) q3
          | rt r => exact Wp.of (a := .rt r) (μ' := μ2) (by simp only [loopF, whlStep, e1, e2]) q
          | ex y ρ1 => exact Wp.of (a := .ex y ρ1) (μ' := μ2) (by simp only [loopF, whlStep, e1, e2]) q
  unfold Whl
  simp only [evalS]
  exact key n fuelW ρ μ (by unfold fuelW; omega) i0
/-- one thing of a comprehension -/
def Ci (C : Calls) (g : GT) (own : List Nat) (t : T) (c : Option J.E) (e : J.E) (ρ : Env) (d : D) (μ : Sto) (R : Option D → Sto → Prop) : Prop :=
  Wip ρ own fun ρ0 => Bt t d ρ0 fun ρ1 => match c with
    | none => We C g e ρ1 μ (fun y μ1 => Nv y fun d => R (some d) μ1) nE
    | some c => Wt C g c ρ1 μ (fun k μ1 => Br k (We C g e ρ1 μ1 (fun y μ2 => Nv y fun d => R (some d) μ2) nE) (R none μ1)) nE
theorem ci_none {own : List Nat} {t : T} {e : J.E} {d : D} {R : Option D → Sto → Prop} : Ci C g own t none e ρ d μ R ↔ Wip ρ own fun ρ0 => Bt t d ρ0 fun ρ1 => We C g e ρ1 μ (fun y μ1 => Nv y fun d => R (some d) μ1) nE := Iff.rfl
theorem ci_some {own : List Nat} {t : T} {c e : J.E} {d : D} {R : Option D → Sto → Prop} : Ci C g own t (some c) e ρ d μ R ↔ Wip ρ own fun ρ0 => Bt t d ρ0 fun ρ1 => Wt C g c ρ1 μ (fun k μ1 => Br k (We C g e ρ1 μ1 (fun y μ2 => Nv y fun d => R (some d) μ2) nE) (R none μ1)) nE := Iff.rfl
theorem ci_wp {own : List Nat} {t : T} {c : Option J.E} {e : J.E} {d : D} {R : Option D → Sto → Prop} : Ci C g own t c e ρ d μ R ↔ Wp (compF C g own t c e ρ d) μ R nE := by
  unfold Ci Wip compF Bt
  dsimp only
  cases bindT t d (wipeS ρ own) with
  | none => exact Iff.rfl
  | some ρ1 =>
    cases c with
    | none =>
      simp only [evalC, wp_q, wq_bind, wq_pure, if_true]
      unfold We
      refine wq_congr rfl fun y μ1 => ?_
      unfold Nv needV
      cases y.val <;> exact Iff.rfl
    | some c =>
      have e1 : evalC C g (some c) ρ1 = evalT C g c ρ1 := by unfold evalT; simp only [evalC]
      simp only [e1, wp_q, wq_bind, wq_ite, wq_pure]
      unfold Wt Br
      refine wq_congr rfl fun k μ1 => ?_
      cases k with
      | false => exact Iff.rfl
      | true =>
        unfold We
        refine wq_congr rfl fun y μ2 => ?_
        unfold Nv needV
        cases y.val <;> exact Iff.rfl
/-- each thing, by an invariant of the store -/
inductive All2 {α β : Type} (R : α → β → Prop) : List α → List β → Prop
  | nil : All2 R [] []
  | cons {a : α} {b : β} {as : List α} {bs : List β} (h : R a b) (t : All2 R as bs) : All2 R (a :: as) (b :: bs)
theorem All2.len {α β : Type} {R : α → β → Prop} {as : List α} {bs : List β} (h : All2 R as bs) : bs.length = as.length := by
  induction h with
  | nil => rfl
  | cons _ _ ih => simp only [List.length_cons, ih]
theorem wp_items {f : D → M (Option D)} {I : Sto → Prop} {T : D → Option D → Prop} : ∀ {ds : List D} {μ : Sto}, (∀ d ∈ ds, ∀ μ, I μ → Wp (f d) μ (fun o μ' => I μ' ∧ T d o) nE) → I μ → Wp (mapItems f ds) μ (fun r μ' => I μ' ∧ ∃ os : List (Option D), All2 T ds os ∧ r = os.filterMap id) nE
  | [], μ, _, i => by
    simp only [mapItems]
    exact wp_pure.mpr ⟨i, [], .nil, rfl⟩
  | d :: ds, μ, h, i => by
    simp only [mapItems]
    rw [wp_bind]
    refine (h d List.mem_cons_self μ i).mono (fun o μ1 ⟨i1, t⟩ => ?_) fun _ _ q => q
    rw [wp_bind]
    refine (wp_items (fun d hd => h d (List.mem_cons_of_mem _ hd)) i1).mono (fun r μ2 ⟨i2, os, ht, hr⟩ => ?_) fun _ _ q => q
    refine wp_pure.mpr ⟨i2, o :: os, .cons t ht, ?_⟩
    cases o with
    | none => simpa using hr
    | some x => simp [hr]
theorem cmp_inv {own : List Nat} {t : T} {c : Option J.E} {e : J.E} (I : Sto → Prop) (T : D → Option D → Prop) (hl : ds.length ≤ 1000000) (i : I μ) (h : ∀ d ∈ ds, ∀ μ, I μ → Ci C g own t c e ρ d μ fun o μ' => I μ' ∧ T d o)
    (q : ∀ os μ', I μ' → All2 T ds os → Q (.fr (os.filterMap id)) μ') : Cmp C g own t c e ds ρ μ Q := by
  unfold Cmp
  rw [← wp_q, wp_bind, wp_noex]
  refine (wp_items (fun d hd μ i => ci_wp.mp (h d hd μ i)) i).mono (fun r μ1 ⟨i1, os, ht, hr⟩ => ?_) fun _ _ q => q
  subst hr
  have : (os.filterMap id).length ≤ ds.length := by rw [← ht.len]; exact List.length_filterMap_le _ _
  rw [if_pos ⟨by rw [sizeLine_eq]; omega, by rw [sizeLine_eq]; omega⟩]
  exact wp_pure.mpr (q os μ1 i1 ht)
/-- a comprehension that changes nothing -/
theorem cmp_map {α : Type} {enc : α → D} {as : List α} {own : List Nat} {t : T} {e : J.E} {h : α → D} (hl : as.length ≤ 1000000) (hf : ∀ a ∈ as, ∀ (R : Option D → Sto → Prop), R (some (h a)) μ → Ci C g own t none e ρ (enc a) μ R) : Cmp C g own t none e (as.map enc) ρ μ Q ↔ Q (.fr (as.map h)) μ := by
  have key : ∀ as : List α, (∀ a ∈ as, compF C g own t none e ρ (enc a) μ = some (.ok (some (h a)) μ)) → mapItems (compF C g own t none e ρ) (as.map enc) μ = some (.ok (as.map h) μ) := by
    intro as
    induction as with
    | nil => intro _; rfl
    | cons a r ih =>
      intro hh
      simp only [List.map_cons, mapItems]
      unfold M.bind
      rw [hh a List.mem_cons_self]
      simp only
      rw [ih fun a ha => hh a (List.mem_cons_of_mem _ ha)]
      rfl
  have e1 := key as fun a ha => by
    obtain ⟨o, μ', e1, e2, e3⟩ := (ci_wp.mp (hf a ha (fun o μ' => o = some (h a) ∧ μ' = μ) ⟨rfl, rfl⟩)).ok
    rw [e1, e2, e3]
  unfold Cmp
  rw [← wp_q, wp_bind, wp_noex, wp_at e1, if_pos ⟨by rw [List.length_map, sizeLine_eq]; omega, by rw [List.length_map, sizeLine_eq]; omega⟩, wp_pure]
theorem cmp_filt {α : Type} {enc : α → D} {as : List α} {own : List Nat} {t : T} {c e : J.E} {h : α → D} {p : α → Bool} (hl : as.length ≤ 1000000) (hf : ∀ a ∈ as, ∀ (R : Option D → Sto → Prop), R (if p a then some (h a) else none) μ → Ci C g own t (some c) e ρ (enc a) μ R) : Cmp C g own t (some c) e (as.map enc) ρ μ Q ↔ Q (.fr ((as.filter p).map h)) μ := by
  have key : ∀ as : List α, (∀ a ∈ as, compF C g own t (some c) e ρ (enc a) μ = some (.ok (if p a then some (h a) else none) μ)) → mapItems (compF C g own t (some c) e ρ) (as.map enc) μ = some (.ok ((as.filter p).map h) μ) := by
    intro as
    induction as with
    | nil => intro _; rfl
    | cons a r ih =>
      intro hh
      simp only [List.map_cons, mapItems]
      unfold M.bind
      rw [hh a List.mem_cons_self]
      simp only
      rw [ih fun a ha => hh a (List.mem_cons_of_mem _ ha)]
      cases hp : p a with
      | true => simp [hp, M.pure]
      | false => simp [hp, M.pure]
  have e1 := key as fun a ha => by
    obtain ⟨o, μ', e1, e2, e3⟩ := (ci_wp.mp (hf a ha (fun o μ' => o = (if p a then some (h a) else none) ∧ μ' = μ) ⟨rfl, rfl⟩)).ok
    rw [e1, e2, e3]
  have hl2 := List.length_filter_le p as
  unfold Cmp
  rw [← wp_q, wp_bind, wp_noex, wp_at e1, if_pos ⟨by rw [List.length_map, sizeLine_eq]; omega, by rw [List.length_map, sizeLine_eq]; omega⟩, wp_pure]
end

/-- the rules, as one -/
def ev := And.intro @ks_nx <|
  And.intro @ks_rt <|
  And.intro @ks_ct <|
  And.intro @ks_ex <|
  And.intro @ke_nx <|
  And.intro @ke_ct <|
  And.intro @ke_rt <|
  And.intro @ke_ex <|
  And.intro @fin_nx <|
  And.intro @fin_rt <|
  And.intro @fin_ex <|
  And.intro @rs_nil <|
  And.intro @bt_nm <|
  And.intro @bt_tp <|
  And.intro @bts_nil <|
  And.intro @bts_cons <|
  And.intro @wip_nil <|
  And.intro @wip_cons <|
  And.intro @rs_asg <|
  And.intro @rs_asgT <|
  And.intro @rs_own <|
  And.intro @was_nil <|
  And.intro @was_cons <|
  And.intro @wbs_nil <|
  And.intro @wbs_cons <|
  And.intro @rs_par2 <|
  And.intro @rs_par3 <|
  And.intro @rs_put <|
  And.intro @rs_app <|
  And.intro @rs_ext <|
  And.intro @ex_lst <|
  And.intro @rs_ret <|
  And.intro @rs_ifs <|
  And.intro @rs_ins <|
  And.intro @rs_clr <|
  And.intro @rs_rvs <|
  And.intro @rs_expr <|
  And.intro @rs_pass <|
  And.intro @rs_cont <|
  And.intro @rs_fors <|
  And.intro @rs_whl <|
  And.intro @each_nil <|
  And.intro @each_cons <|
  And.intro @var_0v <|
  And.intro @var_0o <|
  And.intro @sl_0 <|
  And.intro @sw_0 <|
  And.intro @shr_0 <|
  And.intro @var_1v <|
  And.intro @var_1o <|
  And.intro @sl_1 <|
  And.intro @sw_1 <|
  And.intro @shr_1 <|
  And.intro @var_2v <|
  And.intro @var_2o <|
  And.intro @sl_2 <|
  And.intro @sw_2 <|
  And.intro @shr_2 <|
  And.intro @var_3v <|
  And.intro @var_3o <|
  And.intro @sl_3 <|
  And.intro @sw_3 <|
  And.intro @shr_3 <|
  And.intro @var_4v <|
  And.intro @var_4o <|
  And.intro @sl_4 <|
  And.intro @sw_4 <|
  And.intro @shr_4 <|
  And.intro @var_5v <|
  And.intro @var_5o <|
  And.intro @sl_5 <|
  And.intro @sw_5 <|
  And.intro @shr_5 <|
  And.intro @var_6v <|
  And.intro @var_6o <|
  And.intro @sl_6 <|
  And.intro @sw_6 <|
  And.intro @shr_6 <|
  And.intro @var_7v <|
  And.intro @var_7o <|
  And.intro @sl_7 <|
  And.intro @sw_7 <|
  And.intro @shr_7 <|
  And.intro @var_8v <|
  And.intro @var_8o <|
  And.intro @sl_8 <|
  And.intro @sw_8 <|
  And.intro @shr_8 <|
  And.intro @var_9v <|
  And.intro @var_9o <|
  And.intro @sl_9 <|
  And.intro @sw_9 <|
  And.intro @shr_9 <|
  And.intro @var_10v <|
  And.intro @var_10o <|
  And.intro @sl_10 <|
  And.intro @sw_10 <|
  And.intro @shr_10 <|
  And.intro @var_11v <|
  And.intro @var_11o <|
  And.intro @sl_11 <|
  And.intro @sw_11 <|
  And.intro @shr_11 <|
  And.intro @var_12v <|
  And.intro @var_12o <|
  And.intro @sl_12 <|
  And.intro @sw_12 <|
  And.intro @shr_12 <|
  And.intro @var_13v <|
  And.intro @var_13o <|
  And.intro @sl_13 <|
  And.intro @sw_13 <|
  And.intro @shr_13 <|
  And.intro @var_14v <|
  And.intro @var_14o <|
  And.intro @sl_14 <|
  And.intro @sw_14 <|
  And.intro @shr_14 <|
  And.intro @var_15v <|
  And.intro @var_15o <|
  And.intro @sl_15 <|
  And.intro @sw_15 <|
  And.intro @shr_15 <|
  And.intro @var_16v <|
  And.intro @var_16o <|
  And.intro @sl_16 <|
  And.intro @sw_16 <|
  And.intro @shr_16 <|
  And.intro @var_17v <|
  And.intro @var_17o <|
  And.intro @sl_17 <|
  And.intro @sw_17 <|
  And.intro @shr_17 <|
  And.intro @var_18v <|
  And.intro @var_18o <|
  And.intro @sl_18 <|
  And.intro @sw_18 <|
  And.intro @shr_18 <|
  And.intro @var_19v <|
  And.intro @var_19o <|
  And.intro @sl_19 <|
  And.intro @sw_19 <|
  And.intro @shr_19 <|
  And.intro @var_20v <|
  And.intro @var_20o <|
  And.intro @sl_20 <|
  And.intro @sw_20 <|
  And.intro @shr_20 <|
  And.intro @var_21v <|
  And.intro @var_21o <|
  And.intro @sl_21 <|
  And.intro @sw_21 <|
  And.intro @shr_21 <|
  And.intro @var_22v <|
  And.intro @var_22o <|
  And.intro @sl_22 <|
  And.intro @sw_22 <|
  And.intro @shr_22 <|
  And.intro @var_23v <|
  And.intro @var_23o <|
  And.intro @sl_23 <|
  And.intro @sw_23 <|
  And.intro @shr_23 <|
  And.intro @var_24v <|
  And.intro @var_24o <|
  And.intro @sl_24 <|
  And.intro @sw_24 <|
  And.intro @shr_24 <|
  And.intro @var_25v <|
  And.intro @var_25o <|
  And.intro @sl_25 <|
  And.intro @sw_25 <|
  And.intro @shr_25 <|
  And.intro @var_26v <|
  And.intro @var_26o <|
  And.intro @sl_26 <|
  And.intro @sw_26 <|
  And.intro @shr_26 <|
  And.intro @var_27v <|
  And.intro @var_27o <|
  And.intro @sl_27 <|
  And.intro @sw_27 <|
  And.intro @shr_27 <|
  And.intro @var_28v <|
  And.intro @var_28o <|
  And.intro @sl_28 <|
  And.intro @sw_28 <|
  And.intro @shr_28 <|
  And.intro @var_29v <|
  And.intro @var_29o <|
  And.intro @sl_29 <|
  And.intro @sw_29 <|
  And.intro @shr_29 <|
  And.intro @var_30v <|
  And.intro @var_30o <|
  And.intro @sl_30 <|
  And.intro @sw_30 <|
  And.intro @shr_30 <|
  And.intro @var_31v <|
  And.intro @var_31o <|
  And.intro @sl_31 <|
  And.intro @sw_31 <|
  And.intro @shr_31 <|
  And.intro @we_lit <|
  And.intro @we_glob <|
  And.intro @we_bin <|
  And.intro @we_neg <|
  And.intro @we_not <|
  And.intro @we_cmp <|
  And.intro @we_and <|
  And.intro @we_or <|
  And.intro @we_ite <|
  And.intro @we_tup <|
  And.intro @we_lst <|
  And.intro @we_cell <|
  And.intro @we_dct <|
  And.intro @we_idx <|
  And.intro @wo_none <|
  And.intro @wo_some <|
  And.intro @we_slc <|
  And.intro @we_rev <|
  And.intro @rv_l <|
  And.intro @we_revt <|
  And.intro @rv_t <|
  And.intro @rv_tc <|
  And.intro @we_nilc <|
  And.intro @we_comp <|
  And.intro @we_call0 <|
  And.intro @we_call <|
  And.intro @we_blt <|
  And.intro @we_meth <|
  And.intro @wt_var <|
  And.intro @wt_glob <|
  And.intro @wt_call <|
  And.intro @wt_blt <|
  And.intro @wt_idx <|
  And.intro @wt_bin <|
  And.intro @wt_ite <|
  And.intro @wt_nilc <|
  And.intro @wt_lit <|
  And.intro @wt_cmp <|
  And.intro @wt_not <|
  And.intro @wt_and <|
  And.intro @wt_or <|
  And.intro @wt_chain <|
  And.intro @wi_var <|
  And.intro @wi_glob <|
  And.intro @wi_idx <|
  And.intro @wi_slc <|
  And.intro @wi_call <|
  And.intro @wi_bin <|
  And.intro @wi_tup <|
  And.intro @wi_lst <|
  And.intro @wi_rev <|
  And.intro @wi_revt <|
  And.intro @wi_meth <|
  And.intro @wi_comp <|
  And.intro @wk_l <|
  And.intro @wk_t <|
  And.intro @wk_f <|
  And.intro @wk_s <|
  And.intro @wi_rng <|
  And.intro @wi_enum <|
  And.intro @wi_zip <|
  And.intro @wi_irev <|
  And.intro @nv_v <|
  And.intro @nv_fr <|
  And.intro @fr_fr <|
  And.intro @v_d <|
  And.intro @fr_d <|
  And.intro @bo_d <|
  And.intro @rtV_v <|
  And.intro @rtV_fr <|
  And.intro @rtV_bo <|
  And.intro @hold_v <|
  And.intro @hold_fr <|
  And.intro @lit_i <|
  And.intro @lit_s <|
  And.intro @lit_b <|
  And.intro @lit_n <|
  And.intro @br_t <|
  And.intro @br_f <|
  And.intro @io_i <|
  And.intro @ls_l <|
  And.intro @it_l <|
  And.intro @it_t <|
  And.intro @tw_l <|
  And.intro @tw_t <|
  And.intro @tr_b <|
  And.intro @tr_i <|
  And.intro @tr_l <|
  And.intro @tr_t <|
  And.intro @tr_n <|
  And.intro @bn_addi <|
  And.intro @bn_subi <|
  And.intro @cm_eqi <|
  And.intro @cm_nei <|
  And.intro @cm_lti <|
  And.intro @cm_lei <|
  And.intro @cm_gti <|
  And.intro @cm_gei <|
  And.intro @cm_eqw <|
  And.intro @cm_new <|
  And.intro @cm_in <|
  And.intro @cm_ni <|
  And.intro @cm_isn_n <|
  And.intro @cm_isn_i <|
  And.intro @cm_isn_s <|
  And.intro @cm_isn_t <|
  And.intro @cm_isn_l <|
  And.intro @cm_isn_b <|
  And.intro @cm_nn_n <|
  And.intro @cm_nn_i <|
  And.intro @cm_nn_s <|
  And.intro @cm_nn_t <|
  And.intro @cm_nn_l <|
  And.intro @cm_is_bb <|
  And.intro @cm_nn_bb <|
  And.intro @cm_nn_b <|
  And.intro @in_t1 <|
  And.intro @in_t2 <|
  And.intro @in_t3 <|
  And.intro @in_t4 <|
  And.intro @in_t5 <|
  And.intro @in_t6 <|
  And.intro @in_t7 <|
  And.intro @in_l1 <|
  And.intro @in_l2 <|
  And.intro @in_l3 <|
  And.intro @in_l4 <|
  And.intro @in_l5 <|
  And.intro @in_l6 <|
  And.intro @in_l7 <|
  And.intro @sz_0 <|
  And.intro @sz_1 <|
  And.intro @sz_2 <|
  And.intro @sz_3 <|
  And.intro @sz_4 <|
  And.intro @sz_5 <|
  And.intro @sz_6 <|
  And.intro @sz_7 <|
  And.intro @sz_8 <|
  And.intro @sz_9 <|
  And.intro @sz_10 <|
  And.intro @sz_11 <|
  And.intro @sz_12 <|
  And.intro @ix_t <|
  And.intro @ix_l <|
  And.intro @at_0 <|
  And.intro @at_1 <|
  And.intro @at_2 <|
  And.intro @at_3 <|
  And.intro @at_4 <|
  And.intro @at_5 <|
  And.intro @at_6 <|
  And.intro @at_7 <|
  And.intro @at_m1_1 <|
  And.intro @at_m1_2 <|
  And.intro @at_m1_3 <|
  And.intro @at_m1_4 <|
  And.intro @at_m1_5 <|
  And.intro @at_m1_6 <|
  And.intro @at_m1_7 <|
  And.intro @at_m2_2 <|
  And.intro @at_m2_3 <|
  And.intro @at_m2_4 <|
  And.intro @at_m2_5 <|
  And.intro @at_m2_6 <|
  And.intro @at_m2_7 <|
  And.intro @at_m3_3 <|
  And.intro @at_m3_4 <|
  And.intro @at_m3_5 <|
  And.intro @at_m3_6 <|
  And.intro @at_m3_7 <|
  And.intro @sc_t <|
  And.intro @sc_l <|
  And.intro @cut_to_n <|
  And.intro @cut_from_n <|
  And.intro @cut_from_1 <|
  And.intro @cut_to_1 <|
  And.intro @cut_from_m1 <|
  And.intro @cut_to_m1 <|
  And.intro @cut_m1_1 <|
  And.intro @cut_m1_2 <|
  And.intro @cut_m1_3 <|
  And.intro @cut_m1_4 <|
  And.intro @cut_m1_5 <|
  And.intro @cut_m1_6 <|
  And.intro @cut_m1_7 <|
  And.intro @cut_m2_2 <|
  And.intro @cut_m2_3 <|
  And.intro @cut_m2_4 <|
  And.intro @cut_m2_5 <|
  And.intro @cut_m2_6 <|
  And.intro @cut_m2_7 <|
  And.intro @cut_m3_3 <|
  And.intro @cut_m3_4 <|
  And.intro @cut_m3_5 <|
  And.intro @cut_m3_6 <|
  And.intro @cut_m3_7 <|
  And.intro @ln_cons <|
  And.intro @ln_nil <|
  And.intro @ln_consp <|
  And.intro @ln_nilp <|
  And.intro @ln_nil2 <|
  And.intro @ln_2 <|
  And.intro @bl_len_t <|
  And.intro @bl_len_l <|
  And.intro @bl_tup_l <|
  And.intro @bl_tup_t <|
  And.intro @bl_list_l <|
  And.intro @bl_list_t <|
  And.intro @bl_int_i <|
  And.intro @bl_int_b <|
  And.intro @bl_abs <|
  And.intro @bl_max2 <|
  And.intro @bl_min2 <|
  And.intro @bl_isTuple_t <|
  And.intro @bl_isTuple_s <|
  And.intro @bl_isTuple_i <|
  And.intro @bl_isTuple_b <|
  And.intro @bl_isTuple_n <|
  And.intro @bl_isTuple_l <|
  And.intro @bl_isStr_t <|
  And.intro @bl_isStr_s <|
  And.intro @bl_isStr_i <|
  And.intro @bl_isStr_b <|
  And.intro @bl_isStr_n <|
  And.intro @bl_isStr_l <|
  And.intro @bl_isInt_t <|
  And.intro @bl_isInt_s <|
  And.intro @bl_isInt_i <|
  And.intro @bl_isInt_b <|
  And.intro @bl_isInt_n <|
  And.intro @bl_isInt_l <|
  And.intro @bl_isBool_t <|
  And.intro @bl_isBool_s <|
  And.intro @bl_isBool_i <|
  And.intro @bl_isBool_b <|
  And.intro @bl_isBool_n <|
  And.intro @bl_isBool_l <|
  And.intro @bl_isList_t <|
  And.intro @bl_isList_s <|
  And.intro @bl_isList_i <|
  And.intro @bl_isList_b <|
  And.intro @bl_isList_n <|
  And.intro @bl_isList_l <|
  And.intro @bl_isLT_t <|
  And.intro @bl_isLT_s <|
  And.intro @bl_isLT_i <|
  And.intro @bl_isLT_b <|
  And.intro @bl_isLT_n <|
  And.intro @bl_isLT_l <|
  And.intro @bl_all <|
  And.intro @bl_any <|
  And.intro @bl_sum <|
  And.intro @il_bo <|
  And.intro @ci_none <|
  And.intro @ci_some <|
  And.intro @mc_join <|
  And.intro @mc_split <|
  And.intro @mc_sindex <| @mc_index
end J
/-! the functions -/
namespace J
open PySem L2
/-- 1 -/
def b_many_rows : List S := [.ifs (.cmp .eq (.idx (.var 0) (.lit (.int 0))) (.lit (.str "rest"))) [.ret (.lit (.int 0))] [],
    .ifs (.cmp .eq (.idx (.var 0) (.lit (.int 0))) (.lit (.str "then"))) [.ret (.bin .add (.call 1 [(.idx (.var 0) (.lit (.int 1)))]) (.call 1 [(.idx (.var 0) (.lit (.int 2)))]))] [],
    .ifs (.cmp .isin (.idx (.var 0) (.lit (.int 0))) (.tup [(.lit (.str "either")), (.lit (.str "take"))])) [.ret (.bin .add (.bin .add (.lit (.int 1)) (.call 1 [(.idx (.var 0) (.neg (.lit (.int 2))))])) (.call 1 [(.idx (.var 0) (.neg (.lit (.int 1))))]))] [],
    .ifs (.cmp .eq (.idx (.var 0) (.lit (.int 0))) (.lit (.str "often"))) [.ret (.bin .add (.lit (.int 1)) (.call 1 [(.idx (.var 0) (.lit (.int 1)))]))] [],
    .ret (.lit (.int 1))]
def f_many_rows : Fn := ⟨1, 1, b_many_rows⟩
/-- 2 -/
def b_begin : List S := [.ifs (.cmp .eq (.idx (.var 0) (.lit (.int 0))) (.lit (.str "rest"))) [.ret (.var 2)] [],
    .ifs (.cmp .eq (.idx (.var 0) (.lit (.int 0))) (.lit (.str "then"))) [.ret (.call 2 [(.idx (.var 0) (.lit (.int 1))), (.var 1), (.call 2 [(.idx (.var 0) (.lit (.int 2))), (.bin .add (.var 1) (.call 1 [(.idx (.var 0) (.lit (.int 1)))])), (.var 2)])])] [],
    .ret (.var 1)]
def f_begin : Fn := ⟨3, 3, b_begin⟩
/-- 3 -/
def b_lay : List S := [.asg (.nm 3) (.blt .len [(.var 0)]), .ifs (.cmp .eq (.idx (.var 1) (.lit (.int 0))) (.lit (.str "then"))) [.expr (.call 3 [(.var 0), (.idx (.var 1) (.lit (.int 1))), (.call 2 [(.idx (.var 1) (.lit (.int 2))), (.bin .add (.var 3) (.call 1 [(.idx (.var 1) (.lit (.int 1)))])), (.var 2)])]), .expr (.call 3 [(.var 0), (.idx (.var 1) (.lit (.int 2))), (.var 2)])] [.ifs (.cmp .isin (.idx (.var 1) (.lit (.int 0))) (.tup [(.lit (.str "either")), (.lit (.str "take"))])) [.asg (.nm 4) (.call 2 [(.idx (.var 1) (.neg (.lit (.int 2)))), (.bin .add (.var 3) (.lit (.int 1))), (.var 2)]), .asg (.nm 5) (.call 2 [(.idx (.var 1) (.neg (.lit (.int 1)))), (.bin .add (.bin .add (.var 3) (.lit (.int 1))) (.call 1 [(.idx (.var 1) (.neg (.lit (.int 2))))])), (.var 2)]), .app (.var 0) (.bin .add (.slc (.var 1) none (some (.neg (.lit (.int 2))))) (.tup [(.var 4), (.var 5)])), .expr (.call 3 [(.var 0), (.idx (.var 1) (.neg (.lit (.int 2)))), (.var 2)]), .expr (.call 3 [(.var 0), (.idx (.var 1) (.neg (.lit (.int 1)))), (.var 2)])] [.ifs (.cmp .eq (.idx (.var 1) (.lit (.int 0))) (.lit (.str "often"))) [.app (.var 0) (.tup [(.lit (.str "often")), (.call 2 [(.idx (.var 1) (.lit (.int 1))), (.bin .add (.var 3) (.lit (.int 1))), (.var 3)]), (.var 2)]), .expr (.call 3 [(.var 0), (.idx (.var 1) (.lit (.int 1))), (.var 3)])] [.ifs (.cmp .ne (.idx (.var 1) (.lit (.int 0))) (.lit (.str "rest"))) [.app (.var 0) (.bin .add (.var 1) (.tup [(.var 2)]))] []]]]]
def f_lay : Fn := ⟨3, 6, b_lay⟩
/-- 4 -/
def b_chart : List S := [.asg (.nm 1) (.cell (.lst [])), .expr (.call 3 [(.var 1), (.var 0), (.call 1 [(.var 0)])]), .app (.var 1) (.tup [(.lit (.str "end"))]), .ret (.blt .tuple [(.var 1)])]
def f_chart : Fn := ⟨1, 2, b_chart⟩
/-- 5 -/
def b_l_deal : List S := [.asg (.nm 2) (.comp [3] (.nm 3) (.slc (.var 0) (some (.var 1)) (some (.lit (.int 63)))) none (.blt .max2 [(.var 3), (.bin .sub (.lit (.int 0)) (.var 3))])), .asg (.nm 4) (.bin .add (.lit (.int 7919)) (.var 1)), .fors (.nm 3) (.var 2) [.asg (.nm 4) (.bin .mod (.bin .add (.bin .mul (.var 4) (.lit (.int 48271))) (.bin .mod (.var 3) (.lit (.int 2147483629)))) (.lit (.int 2147483647)))],
    .ret (.dct [.inr "seed", .inr "number", .inr "left"] [(.var 4), (.lit (.int 0)), (.cell (.rev (.comp [3] (.nm 3) (.var 2) (some (.cmp .ge (.var 3) (.bin .pow (.lit (.int 10)) (.lit (.int 18))))) (.var 3))))])]
def f_l_deal : Fn := ⟨2, 5, b_l_deal⟩
/-- 6 -/
def b_l_draw : List S := [.whl (.and (.cmp .eq (.idx (.var 0) (.lit (.str "number"))) (.lit (.int 0))) (.cmp .gt (.blt .len [(.idx (.var 0) (.lit (.str "left")))]) (.lit (.int 0)))) [.put (.var 0) (.lit (.str "number")) (.meth .pop (.idx (.var 0) (.lit (.str "left"))) [])],
    .asg (.nm 2) (.idx (.var 0) (.lit (.str "number"))), .ifs (.cmp .gt (.var 2) (.lit (.int 0))) [.put (.var 0) (.lit (.str "number")) (.bin .fdiv (.var 2) (.var 1)), .ret (.bin .mod (.var 2) (.var 1))] [],
    .asg (.nm 3) (.bin .mod (.bin .add (.bin .mul (.idx (.var 0) (.lit (.str "seed"))) (.lit (.int 48271))) (.lit (.int 7919))) (.lit (.int 2147483647))), .put (.var 0) (.lit (.str "seed")) (.bin .mod (.bin .add (.bin .mul (.var 3) (.lit (.int 40692))) (.lit (.int 104729))) (.lit (.int 2147483399))), .asg (.nm 4) (.bin .mod (.bin .mul (.idx (.var 0) (.lit (.str "seed"))) (.idx (.var 0) (.lit (.str "seed")))) (.lit (.int 2147483563))), .ret (.bin .mod (.bin .add (.bin .mul (.bin .mod (.bin .mul (.var 3) (.var 3)) (.lit (.int 2147483629))) (.lit (.int 2147483563))) (.var 4)) (.var 1))]
def f_l_draw : Fn := ⟨2, 5, b_l_draw⟩
/-- 7 -/
def b_l_words : List S := [.asg (.nm 2) (.lit (.str "abcdefghijklmnopqrstuvwxyz")), .asg (.nm 3) (.lst [(.lit (.str "jars")), (.lit (.str "deed")), (.lit (.str "rest")), (.lit (.str "pay")), (.lit (.str "put")), (.lit (.str "then")), (.lit (.str "either")), (.lit (.str "take")), (.lit (.str "often")), (.lit (.str "use"))]), .asg (.nm 4) (.meth .join (.lit (.str "")) [(.comp [5] (.nm 5) (.irng (.call 6 [(.var 0), (.lit (.int 6))])) none (.idx (.var 2) (.call 6 [(.var 0), (.lit (.int 26))])))]), .par3 6 7 8 (.call 6 [(.var 0), (.bin .add (.blt .len [(.var 4)]) (.lit (.int 1)))]) (.call 6 [(.var 0), (.lit (.int 26))]) (.cmp .eq (.call 6 [(.var 0), (.lit (.int 2))]) (.lit (.int 0))), .own 9 (.lst []), .fors (.nm 5) (.irng (.var 1)) [.asg (.nm 10) (.bin .add (.bin .add (.slc (.var 4) none (some (.var 6))) (.idx (.var 2) (.bin .mod (.bin .add (.var 7) (.var 5)) (.lit (.int 26))))) (.slc (.var 4) (some (.var 6)) none)), .ifs (.not (.var 8)) [.asg (.nm 10) (.meth .join (.lit (.str "")) [(.comp [11] (.nm 11) (.irng (.bin .add (.lit (.int 1)) (.call 6 [(.var 0), (.lit (.int 6))]))) none (.idx (.var 2) (.call 6 [(.var 0), (.lit (.int 26))])))])] [],
    .whl (.or (.cmp .isin (.var 10) (.var 3)) (.cmp .isin (.var 10) (.var 9))) [.asg (.nm 10) (.bin .add (.idx (.var 2) (.bin .mod (.bin .add (.meth .sindex (.var 2) [(.idx (.var 10) (.lit (.int 0)))]) (.lit (.int 1))) (.lit (.int 26)))) (.slc (.var 10) (some (.lit (.int 1))) none))],
    .app (.var 9) (.var 10)],
    .ret (.var 9)]
def f_l_words : Fn := ⟨2, 12, b_l_words⟩
/-- 8 -/
def b_l_low : List S := [.par2 2 3 (.blt .max2 [(.var 0), (.bin .sub (.lit (.int 0)) (.var 0))]) (.var 1), .whl (.cmp .gt (.var 3) (.lit (.int 0))) [.par2 2 3 (.var 3) (.bin .mod (.var 2) (.var 3))], .ret (.tup [(.bin .fdiv (.var 0) (.var 2)), (.bin .fdiv (.var 1) (.var 2))])]
def f_l_low : Fn := ⟨2, 4, b_l_low⟩
/-- 9 -/
def b_l_cost : List S := [.asg (.nm 1) (.call 6 [(.var 0), (.lit (.int 4))]), .ifs (.cmp .eq (.var 1) (.lit (.int 0))) [.ret (.tup [(.lit (.int 0)), (.lit (.int 1))])] [],
    .ifs (.cmp .lt (.var 1) (.lit (.int 3))) [.ret (.tup [(.bin .add (.lit (.int 1)) (.call 6 [(.var 0), (.lit (.int 5))])), (.lit (.int 1))])] [],
    .ret (.call 8 [(.call 6 [(.var 0), (.lit (.int 1000))]), (.bin .add (.lit (.int 1)) (.call 6 [(.var 0), (.lit (.int 9))]))])]
def f_l_cost : Fn := ⟨1, 2, b_l_cost⟩
/-- 10 -/
def b_l_leaf : List S := [.asg (.nm 2) (.call 6 [(.var 0), (.lit (.int 7))]), .ifs (.cmp .eq (.var 2) (.lit (.int 0))) [.ret (.tup [(.lit (.str "rest"))])] [],
    .ifs (.or (.cmp .lt (.var 2) (.lit (.int 4))) (.cmp .eq (.blt .len [(.var 1)]) (.lit (.int 0)))) [.ret (.tup [(.lit (.str "pay")), (.call 9 [(.var 0)])])] [],
    .asg (.nm 3) (.idx (.lst [(.lit (.int 1)), (.lit (.int 2)), (.bin .add (.lit (.int 1)) (.call 6 [(.var 0), (.lit (.int 9))]))]) (.call 6 [(.var 0), (.lit (.int 3))])), .ret (.tup [(.lit (.str "put")), (.idx (.var 1) (.call 6 [(.var 0), (.blt .len [(.var 1)])])), (.var 3)])]
def f_l_leaf : Fn := ⟨2, 4, b_l_leaf⟩
/-- 11 -/
def b_l_body : List S := [.asg (.nm 4) (.call 6 [(.var 0), (.lit (.int 12))]), .ifs (.or (.cmp .eq (.var 3) (.lit (.int 0))) (.or (.cmp .lt (.idx (.var 2) (.lit (.int 0))) (.lit (.int 2))) (.cmp .lt (.var 4) (.lit (.int 3))))) [.ret (.call 10 [(.var 0), (.var 1)])] [],
    .ifs (.cmp .lt (.var 4) (.lit (.int 5))) [.put (.var 2) (.lit (.int 0)) (.bin .sub (.idx (.var 2) (.lit (.int 0))) (.lit (.int 1))), .ret (.tup [(.lit (.str "often")), (.call 11 [(.var 0), (.var 1), (.var 2), (.bin .sub (.var 3) (.lit (.int 1)))])])] [],
    .put (.var 2) (.lit (.int 0)) (.bin .sub (.idx (.var 2) (.lit (.int 0))) (.lit (.int 2))), .asg (.nm 5) (.call 11 [(.var 0), (.var 1), (.var 2), (.bin .sub (.var 3) (.lit (.int 1)))]), .asg (.nm 6) (.call 11 [(.var 0), (.var 1), (.var 2), (.bin .sub (.var 3) (.lit (.int 1)))]), .ifs (.cmp .lt (.var 4) (.lit (.int 8))) [.ret (.tup [(.lit (.str "then")), (.var 5), (.var 6)])] [],
    .ifs (.or (.cmp .eq (.var 4) (.lit (.int 8))) (.cmp .eq (.blt .len [(.var 1)]) (.lit (.int 0)))) [.ret (.tup [(.lit (.str "either")), (.var 5), (.var 6)])] [],
    .asg (.nm 7) (.idx (.lst [(.lit (.int 1)), (.lit (.int 1)), (.lit (.int 2)), (.bin .add (.lit (.int 1)) (.call 6 [(.var 0), (.lit (.int 9))]))]) (.call 6 [(.var 0), (.lit (.int 4))])), .ret (.tup [(.lit (.str "take")), (.idx (.var 1) (.call 6 [(.var 0), (.blt .len [(.var 1)])])), (.var 7), (.var 5), (.var 6)])]
def f_l_body : Fn := ⟨4, 8, b_l_body⟩
/-- 12 -/
def b_l_used : List S := [.ifs (.and (.cmp .eq (.idx (.var 1) (.lit (.int 0))) (.lit (.str "pay"))) (.cmp .eq (.call 6 [(.var 0), (.lit (.int 2))]) (.lit (.int 0)))) [.ret (.tup [(.lit (.str "use")), (.idx (.var 2) (.call 6 [(.var 0), (.blt .len [(.var 2)])]))])] [],
    .ifs (.cmp .isin (.idx (.var 1) (.lit (.int 0))) (.tup [(.lit (.str "then")), (.lit (.str "either")), (.lit (.str "take"))])) [.asg (.nm 3) (.call 12 [(.var 0), (.idx (.var 1) (.neg (.lit (.int 2)))), (.var 2)]), .ret (.bin .add (.slc (.var 1) none (some (.neg (.lit (.int 2))))) (.tup [(.var 3), (.call 12 [(.var 0), (.idx (.var 1) (.neg (.lit (.int 1)))), (.var 2)])]))] [],
    .ifs (.cmp .eq (.idx (.var 1) (.lit (.int 0))) (.lit (.str "often"))) [.ret (.tup [(.lit (.str "often")), (.call 12 [(.var 0), (.idx (.var 1) (.lit (.int 1))), (.var 2)])])] [],
    .ret (.var 1)]
def f_l_used : Fn := ⟨3, 4, b_l_used⟩
/-- 13 -/
def b_l_many : List S := [.ifs (.cmp .eq (.idx (.var 0) (.lit (.int 0))) (.lit (.str "rest"))) [.ret (.lit (.int 0))] [],
    .ifs (.cmp .eq (.idx (.var 0) (.lit (.int 0))) (.lit (.str "then"))) [.ret (.bin .add (.call 13 [(.idx (.var 0) (.lit (.int 1)))]) (.call 13 [(.idx (.var 0) (.lit (.int 2)))]))] [],
    .ifs (.cmp .eq (.idx (.var 0) (.lit (.int 0))) (.lit (.str "often"))) [.ret (.bin .add (.lit (.int 1)) (.call 13 [(.idx (.var 0) (.lit (.int 1)))]))] [],
    .ifs (.cmp .isin (.idx (.var 0) (.lit (.int 0))) (.tup [(.lit (.str "either")), (.lit (.str "take"))])) [.ret (.bin .add (.bin .add (.lit (.int 1)) (.call 13 [(.idx (.var 0) (.neg (.lit (.int 2))))])) (.call 13 [(.idx (.var 0) (.neg (.lit (.int 1))))]))] [],
    .ret (.lit (.int 1))]
def f_l_many : Fn := ⟨1, 1, b_l_many⟩
/-- 14 -/
def b_l_rows : List S := [.ifs (.cmp .eq (.idx (.var 0) (.lit (.int 0))) (.lit (.str "rest"))) [.ret (.tup [(.var 2), (.lst [])])] [],
    .ifs (.cmp .eq (.idx (.var 0) (.lit (.int 0))) (.lit (.str "then"))) [.asg (.tp [(.nm 3), (.nm 4)]) (.call 14 [(.idx (.var 0) (.lit (.int 2))), (.bin .add (.var 1) (.call 13 [(.idx (.var 0) (.lit (.int 1)))])), (.var 2)]), .asg (.tp [(.nm 5), (.nm 6)]) (.call 14 [(.idx (.var 0) (.lit (.int 1))), (.var 1), (.var 3)]), .ret (.tup [(.var 5), (.bin .add (.var 6) (.var 4))])] [],
    .ifs (.cmp .eq (.idx (.var 0) (.lit (.int 0))) (.lit (.str "often"))) [.asg (.tp [(.nm 5), (.nm 6)]) (.call 14 [(.idx (.var 0) (.lit (.int 1))), (.bin .add (.var 1) (.lit (.int 1))), (.var 1)]), .ret (.tup [(.var 1), (.bin .add (.lst [(.tup [(.lit (.str "often")), (.var 5), (.var 2)])]) (.var 6))])] [],
    .ifs (.cmp .isin (.idx (.var 0) (.lit (.int 0))) (.tup [(.lit (.str "either")), (.lit (.str "take"))])) [.asg (.tp [(.nm 5), (.nm 6)]) (.call 14 [(.idx (.var 0) (.neg (.lit (.int 2)))), (.bin .add (.var 1) (.lit (.int 1))), (.var 2)]), .asg (.tp [(.nm 3), (.nm 4)]) (.call 14 [(.idx (.var 0) (.neg (.lit (.int 1)))), (.bin .add (.bin .add (.var 1) (.lit (.int 1))) (.blt .len [(.var 6)])), (.var 2)]), .ret (.tup [(.var 1), (.bin .add (.bin .add (.lst [(.bin .add (.slc (.var 0) none (some (.neg (.lit (.int 2))))) (.tup [(.var 5), (.var 3)]))]) (.var 6)) (.var 4))])] [],
    .ret (.tup [(.var 1), (.lst [(.bin .add (.var 0) (.tup [(.var 2)]))])])]
def f_l_rows : Fn := ⟨3, 7, b_l_rows⟩
/-- 15 -/
def b_l_alike : List S := [.ifs (.blt .isTuple [(.var 1)]) [.ifs (.or (.not (.blt .isTuple [(.var 0)])) (.cmp .ne (.blt .len [(.var 0)]) (.blt .len [(.var 1)]))) [.ret (.lit (.bl false))] [],
    .ret (.blt .all [(.comp [2, 3] (.tp [(.nm 2), (.nm 3)]) (.izip (.var 0) (.var 1)) none (.call 15 [(.var 2), (.var 3)]))])] [],
    .ifs (.blt .isStr [(.var 1)]) [.ret (.and (.blt .isStr [(.var 0)]) (.cmp .eq (.var 0) (.var 1)))] [],
    .ret (.and (.blt .isInt [(.var 0)]) (.and (.not (.blt .isBool [(.var 0)])) (.cmp .eq (.var 0) (.var 1))))]
def f_l_alike : Fn := ⟨2, 4, b_l_alike⟩
/-- 16 -/
def b_l_right : List S := [.asg (.nm 1) (.idx (.call 14 [(.var 0), (.lit (.int 0)), (.call 13 [(.var 0)])]) (.lit (.int 1))), .ret (.call 15 [(.call 4 [(.var 0)]), (.blt .tuple [(.bin .add (.var 1) (.lst [(.tup [(.lit (.str "end"))])]))])])]
def f_l_right : Fn := ⟨1, 2, b_l_right⟩
/-- 18 -/
def b_is_number_from_one : List S := [.ret (.and (.blt .isInt [(.var 0)]) (.and (.not (.blt .isBool [(.var 0)])) (.cmp .ge (.var 0) (.lit (.int 1)))))]
def f_is_number_from_one : Fn := ⟨1, 1, b_is_number_from_one⟩
/-- 19 -/
def b_is_going : List S := [.ifs (.or (.not (.blt .isTuple [(.var 1)])) (.cmp .ne (.blt .len [(.var 1)]) (.lit (.int 2)))) [.ret (.lit (.bl false))] [], .ret (.and (.call 18 [(.idx (.var 1) (.lit (.int 0)))]) (.call 20 [(.var 0), (.idx (.var 1) (.lit (.int 1)))]))]
def f_is_going : Fn := ⟨2, 2, b_is_going⟩
/-- 20 -/
def b_is_trace : List S := [.ifs (.not (.blt .isTuple [(.var 1)])) [.ret (.lit (.bl false))] [],
    .ifs (.cmp .eq (.idx (.var 0) (.lit (.int 0))) (.lit (.str "often"))) [.ret (.blt .all [(.comp [2] (.nm 2) (.var 1) none (.call 19 [(.idx (.var 0) (.lit (.int 1))), (.var 2)]))])] [],
    .ifs (.cmp .notin (.idx (.var 0) (.lit (.int 0))) (.tup [(.lit (.str "then")), (.lit (.str "either")), (.lit (.str "take"))])) [.ret (.cmp .eq (.blt .len [(.var 1)]) (.lit (.int 0)))] [],
    .ifs (.cmp .ne (.blt .len [(.var 1)]) (.lit (.int 2))) [.ret (.lit (.bl false))] [],
    .ifs (.cmp .eq (.idx (.var 0) (.lit (.int 0))) (.lit (.str "then"))) [.ret (.and (.call 20 [(.idx (.var 0) (.lit (.int 1))), (.idx (.var 1) (.lit (.int 0)))]) (.call 20 [(.idx (.var 0) (.lit (.int 2))), (.idx (.var 1) (.lit (.int 1)))]))] [],
    .asg (.nm 3) (.idx (.var 1) (.lit (.int 0))), .ifs (.or (.not (.blt .isInt [(.var 3)])) (.or (.blt .isBool [(.var 3)]) (.or (.cmp .lt (.var 3) (.lit (.int 0))) (.cmp .gt (.var 3) (.lit (.int 1)))))) [.ret (.lit (.bl false))] [],
    .ret (.call 20 [(.idx (.var 0) (.bin .sub (.var 3) (.lit (.int 2)))), (.idx (.var 1) (.lit (.int 1)))])]
def f_is_trace : Fn := ⟨2, 4, b_is_trace⟩
/-- 21 -/
def b_l_trace : List S := [.ifs (.cmp .eq (.idx (.var 1) (.lit (.int 0))) (.lit (.str "then"))) [.asg (.nm 3) (.call 21 [(.var 0), (.idx (.var 1) (.lit (.int 1))), (.var 2)]), .ret (.tup [(.var 3), (.call 21 [(.var 0), (.idx (.var 1) (.lit (.int 2))), (.var 2)])])] [],
    .ifs (.or (.cmp .eq (.idx (.var 1) (.lit (.int 0))) (.lit (.str "either"))) (.cmp .eq (.idx (.var 1) (.lit (.int 0))) (.lit (.str "take")))) [.asg (.nm 4) (.call 6 [(.var 0), (.lit (.int 2))]), .ret (.tup [(.var 4), (.call 21 [(.var 0), (.idx (.var 1) (.bin .sub (.var 4) (.lit (.int 2)))), (.var 2)])])] [],
    .own 5 (.lst []), .fors (.nm 6) (.irng (.bin .mul (.call 6 [(.var 0), (.lit (.int 3))]) (.blt .int [(.cmp .eq (.idx (.var 1) (.lit (.int 0))) (.lit (.str "often")))]))) [.ifs (.cmp .gt (.idx (.var 2) (.lit (.int 0))) (.lit (.int 0))) [.put (.var 2) (.lit (.int 0)) (.bin .sub (.idx (.var 2) (.lit (.int 0))) (.lit (.int 1))), .app (.var 5) (.tup [(.bin .add (.lit (.int 1)) (.call 6 [(.var 0), (.lit (.int 3))])), (.call 21 [(.var 0), (.idx (.var 1) (.lit (.int 1))), (.var 2)])])] []],
    .share 5, .ret (.blt .tuple [(.var 5)])]
def f_l_trace : Fn := ⟨3, 7, b_l_trace⟩
/-- 22 -/
def b_l_number : List S := [.ret (.and (.blt .isInt [(.var 0)]) (.not (.blt .isBool [(.var 0)])))]
def f_l_number : Fn := ⟨1, 1, b_l_number⟩
/-- 23 -/
def b_l_is : List S := [.ifs (.not (.blt .isTuple [(.var 1)])) [.ret (.lit (.bl false))] [],
    .ifs (.cmp .eq (.idx (.var 0) (.lit (.int 0))) (.lit (.str "often"))) [.fors (.nm 2) (.var 1) [.ifs (.or (.not (.blt .isTuple [(.var 2)])) (.or (.cmp .ne (.blt .len [(.var 2)]) (.lit (.int 2))) (.or (.not (.call 22 [(.idx (.var 2) (.lit (.int 0)))])) (.cmp .lt (.idx (.var 2) (.lit (.int 0))) (.lit (.int 1)))))) [.ret (.lit (.bl false))] [],
    .ifs (.not (.call 23 [(.idx (.var 0) (.lit (.int 1))), (.idx (.var 2) (.lit (.int 1)))])) [.ret (.lit (.bl false))] []],
    .ret (.lit (.bl true))] [],
    .ifs (.cmp .notin (.idx (.var 0) (.lit (.int 0))) (.tup [(.lit (.str "then")), (.lit (.str "either")), (.lit (.str "take"))])) [.ret (.cmp .eq (.var 1) (.tup []))] [],
    .ifs (.cmp .ne (.blt .len [(.var 1)]) (.lit (.int 2))) [.ret (.lit (.bl false))] [],
    .ifs (.cmp .eq (.idx (.var 0) (.lit (.int 0))) (.lit (.str "then"))) [.ret (.and (.call 23 [(.idx (.var 0) (.lit (.int 1))), (.idx (.var 1) (.lit (.int 0)))]) (.call 23 [(.idx (.var 0) (.lit (.int 2))), (.idx (.var 1) (.lit (.int 1)))]))] [],
    .ifs (.or (.not (.call 22 [(.idx (.var 1) (.lit (.int 0)))])) (.cmp .notin (.idx (.var 1) (.lit (.int 0))) (.tup [(.lit (.int 0)), (.lit (.int 1))]))) [.ret (.lit (.bl false))] [],
    .ret (.call 23 [(.idx (.var 0) (.idx (.lst [(.neg (.lit (.int 2))), (.neg (.lit (.int 1)))]) (.idx (.var 1) (.lit (.int 0))))), (.idx (.var 1) (.lit (.int 1)))])]
def f_l_is : Fn := ⟨2, 3, b_l_is⟩
/-- 24 -/
def b_l_count : List S := [.ifs (.blt .isTuple [(.var 0)]) [.ret (.bin .add (.lit (.int 1)) (.blt .sum [(.comp [1] (.nm 1) (.var 0) none (.call 24 [(.var 1)]))]))] [], .ret (.lit (.int 1))]
def f_l_count : Fn := ⟨1, 2, b_l_count⟩
/-- 29 -/
def b_plain_trace : List S := [.ifs (.cmp .eq (.idx (.var 0) (.lit (.int 0))) (.lit (.str "then"))) [.ret (.tup [(.call 29 [(.idx (.var 0) (.lit (.int 1)))]), (.call 29 [(.idx (.var 0) (.lit (.int 2)))])])] [],
    .ifs (.cmp .eq (.idx (.var 0) (.lit (.int 0))) (.lit (.str "either"))) [.ret (.tup [(.lit (.int 0)), (.call 29 [(.idx (.var 0) (.lit (.int 1)))])])] [],
    .ifs (.cmp .eq (.idx (.var 0) (.lit (.int 0))) (.lit (.str "take"))) [.ret (.tup [(.lit (.int 1)), (.call 29 [(.idx (.var 0) (.lit (.int 4)))])])] [],
    .ret (.tup [])]
def f_plain_trace : Fn := ⟨1, 1, b_plain_trace⟩
/-- 30 -/
def b_oftens : List S := [.ifs (.cmp .eq (.idx (.var 0) (.lit (.int 0))) (.lit (.str "often"))) [.ret (.bin .add (.lit (.int 1)) (.call 30 [(.idx (.var 0) (.lit (.int 1)))]))] [],
    .ifs (.cmp .isin (.idx (.var 0) (.lit (.int 0))) (.tup [(.lit (.str "then")), (.lit (.str "either")), (.lit (.str "take"))])) [.ret (.bin .add (.call 30 [(.idx (.var 0) (.neg (.lit (.int 2))))]) (.call 30 [(.idx (.var 0) (.neg (.lit (.int 1))))]))] [],
    .ret (.lit (.int 0))]
def f_oftens : Fn := ⟨1, 1, b_oftens⟩
/-- 31 -/
def b_led_to : List S := [.ifs (.and (.cmp .eq (.idx (.var 0) (.lit (.int 0))) (.lit (.str "often"))) (.cmp .eq (.var 1) (.lit (.int 0)))) [.ret (.var 2)] [],
    .ifs (.cmp .eq (.idx (.var 0) (.lit (.int 0))) (.lit (.str "often"))) [.ret (.tup [(.tup [(.lit (.int 1)), (.call 31 [(.idx (.var 0) (.lit (.int 1))), (.bin .sub (.var 1) (.lit (.int 1))), (.var 2)])])])] [],
    .asg (.nm 3) (.call 30 [(.idx (.var 0) (.neg (.lit (.int 2))))]), .ifs (.cmp .eq (.idx (.var 0) (.lit (.int 0))) (.lit (.str "then"))) [.ifs (.cmp .lt (.var 1) (.var 3)) [.ret (.tup [(.call 31 [(.idx (.var 0) (.lit (.int 1))), (.var 1), (.var 2)]), (.call 29 [(.idx (.var 0) (.lit (.int 2)))])])] [],
    .ret (.tup [(.call 29 [(.idx (.var 0) (.lit (.int 1)))]), (.call 31 [(.idx (.var 0) (.lit (.int 2))), (.bin .sub (.var 1) (.var 3)), (.var 2)])])] [],
    .ifs (.cmp .lt (.var 1) (.var 3)) [.ret (.tup [(.lit (.int 0)), (.call 31 [(.idx (.var 0) (.neg (.lit (.int 2)))), (.var 1), (.var 2)])])] [],
    .ret (.tup [(.lit (.int 1)), (.call 31 [(.idx (.var 0) (.neg (.lit (.int 1)))), (.bin .sub (.var 1) (.var 3)), (.var 2)])])]
def f_led_to : Fn := ⟨3, 4, b_led_to⟩
/-- 32 -/
def b_l_plain : List S := [.ifs (.cmp .eq (.idx (.var 0) (.lit (.int 0))) (.lit (.str "then"))) [.ret (.tup [(.call 32 [(.idx (.var 0) (.lit (.int 1)))]), (.call 32 [(.idx (.var 0) (.lit (.int 2)))])])] [],
    .ifs (.cmp .isin (.idx (.var 0) (.lit (.int 0))) (.tup [(.lit (.str "either")), (.lit (.str "take"))])) [.asg (.nm 1) (.blt .int [(.cmp .eq (.idx (.var 0) (.lit (.int 0))) (.lit (.str "take")))]), .ret (.tup [(.var 1), (.call 32 [(.idx (.var 0) (.bin .sub (.var 1) (.lit (.int 2))))])])] [],
    .ret (.tup [])]
def f_l_plain : Fn := ⟨1, 2, b_l_plain⟩
/-- 33 -/
def b_l_ways : List S := [.asg (.nm 1) (.lst []), .ifs (.cmp .eq (.idx (.var 0) (.lit (.int 0))) (.lit (.str "often"))) [.asg (.nm 1) (.bin .add (.lst [(.tup [(.lst []), (.var 0)])]) (.comp [2, 3] (.tp [(.nm 2), (.nm 3)]) (.call 33 [(.idx (.var 0) (.lit (.int 1)))]) none (.tup [(.bin .add (.lst [(.lit (.int 0))]) (.var 2)), (.var 3)])))] [],
    .ifs (.cmp .isin (.idx (.var 0) (.lit (.int 0))) (.tup [(.lit (.str "then")), (.lit (.str "either")), (.lit (.str "take"))])) [.fors (.nm 4) (.tup [(.lit (.int 0)), (.lit (.int 1))]) [.asg (.nm 1) (.bin .add (.var 1) (.comp [2, 3] (.tp [(.nm 2), (.nm 3)]) (.call 33 [(.idx (.var 0) (.bin .sub (.var 4) (.lit (.int 2))))]) none (.tup [(.bin .add (.lst [(.var 4)]) (.var 2)), (.var 3)])))]] [],
    .ret (.var 1)]
def f_l_ways : Fn := ⟨1, 5, b_l_ways⟩
/-- 34 -/
def b_l_led : List S := [.ifs (.cmp .eq (.blt .len [(.var 1)]) (.lit (.int 0))) [.ret (.var 2)] [],
    .ifs (.cmp .eq (.idx (.var 0) (.lit (.int 0))) (.lit (.str "often"))) [.ret (.tup [(.tup [(.lit (.int 1)), (.call 34 [(.idx (.var 0) (.lit (.int 1))), (.slc (.var 1) (some (.lit (.int 1))) none), (.var 2)])])])] [],
    .asg (.nm 3) (.call 34 [(.idx (.var 0) (.bin .sub (.idx (.var 1) (.lit (.int 0))) (.lit (.int 2)))), (.slc (.var 1) (some (.lit (.int 1))) none), (.var 2)]), .ifs (.cmp .ne (.idx (.var 0) (.lit (.int 0))) (.lit (.str "then"))) [.ret (.tup [(.idx (.var 1) (.lit (.int 0))), (.var 3)])] [],
    .ifs (.cmp .eq (.idx (.var 1) (.lit (.int 0))) (.lit (.int 0))) [.ret (.tup [(.var 3), (.call 32 [(.idx (.var 0) (.lit (.int 2)))])])] [],
    .ret (.tup [(.call 32 [(.idx (.var 0) (.lit (.int 1)))]), (.var 3)])]
def f_l_led : Fn := ⟨3, 4, b_l_led⟩
/-- 35 -/
def b_l_alike_2 : List S := [.ifs (.blt .isTuple [(.var 1)]) [.ifs (.or (.not (.blt .isTuple [(.var 0)])) (.cmp .ne (.blt .len [(.var 0)]) (.blt .len [(.var 1)]))) [.ret (.lit (.bl false))] [],
    .ret (.blt .all [(.comp [2, 3] (.tp [(.nm 2), (.nm 3)]) (.izip (.var 0) (.var 1)) none (.call 35 [(.var 2), (.var 3)]))])] [],
    .ret (.and (.blt .isInt [(.var 0)]) (.and (.not (.blt .isBool [(.var 0)])) (.cmp .eq (.var 0) (.var 1))))]
def f_l_alike_2 : Fn := ⟨2, 4, b_l_alike_2⟩
/-- 39 -/
def b_l_done : List S := [.ifs (.cmp .eq (.idx (.var 0) (.lit (.int 0))) (.lit (.str "rest"))) [.ret (.lst [])] [],
    .ifs (.cmp .eq (.idx (.var 0) (.lit (.int 0))) (.lit (.str "then"))) [.ret (.bin .add (.call 39 [(.idx (.var 0) (.lit (.int 1))), (.idx (.var 1) (.lit (.int 0)))]) (.call 39 [(.idx (.var 0) (.lit (.int 2))), (.idx (.var 1) (.lit (.int 1)))]))] [],
    .ifs (.cmp .isin (.idx (.var 0) (.lit (.int 0))) (.tup [(.lit (.str "either")), (.lit (.str "take"))])) [.ret (.bin .add (.lst [(.tup [(.slc (.var 0) none (some (.neg (.lit (.int 2))))), (.idx (.var 1) (.lit (.int 0)))])]) (.call 39 [(.idx (.var 0) (.bin .sub (.idx (.var 1) (.lit (.int 0))) (.lit (.int 2)))), (.idx (.var 1) (.lit (.int 1)))]))] [],
    .ifs (.cmp .eq (.idx (.var 0) (.lit (.int 0))) (.lit (.str "often"))) [.asg (.nm 2) (.lst []), .fors (.tp [(.nm 3), (.nm 4)]) (.var 1) [.asg (.nm 2) (.bin .add (.var 2) (.bin .mul (.bin .add (.lst [(.tup [(.tup [(.lit (.str "often"))]), (.lit (.int 0))])]) (.call 39 [(.idx (.var 0) (.lit (.int 1))), (.var 4)])) (.var 3)))],
    .ret (.bin .add (.var 2) (.lst [(.tup [(.tup [(.lit (.str "often"))]), (.lit (.int 1))])]))] [],
    .ret (.lst [(.tup [(.var 0), (.lit (.int 0))])])]
def f_l_done : Fn := ⟨2, 5, b_l_done⟩
/-- 40 -/
def b_l_gone : List S := [.asg (.nm 2) (.lit (.int 0)), .own 3 (.lst [(.lit (.int 0))]), .fors (.tp [(.nm 4), (.nm 5)]) (.var 1) [.asg (.nm 6) (.idx (.var 0) (.var 2)), .asg (.nm 7) (.bin .add (.lit (.int 1)) (.blt .int [(.cmp .isin (.idx (.var 4) (.lit (.int 0))) (.tup [(.lit (.str "either")), (.lit (.str "take")), (.lit (.str "often"))]))])), .ifs (.or (.cmp .ne (.slc (.var 6) none (some (.neg (.var 7)))) (.var 4)) (.cmp .ne (.blt .len [(.var 6)]) (.bin .add (.blt .len [(.var 4)]) (.var 7)))) [.ret (.lit .non)] [],
    .asg (.nm 2) (.idx (.var 6) (.bin .add (.blt .len [(.var 4)]) (.var 5))), .ifs (.or (.not (.blt .isInt [(.var 2)])) (.or (.blt .isBool [(.var 2)]) (.or (.cmp .lt (.var 2) (.lit (.int 0))) (.cmp .ge (.var 2) (.blt .len [(.var 0)]))))) [.ret (.lit .non)] [],
    .app (.var 3) (.var 2)],
    .ret (.var 3)]
def f_l_gone : Fn := ⟨2, 8, b_l_gone⟩
/-- 47 -/
def b_l_pass_count : List S := [.ifs (.cmp .eq (.idx (.var 0) (.lit (.int 0))) (.lit (.str "then"))) [.ret (.bin .mul (.call 47 [(.idx (.var 0) (.lit (.int 1)))]) (.call 47 [(.idx (.var 0) (.lit (.int 2)))]))] [],
    .ifs (.or (.cmp .eq (.idx (.var 0) (.lit (.int 0))) (.lit (.str "either"))) (.cmp .eq (.idx (.var 0) (.lit (.int 0))) (.lit (.str "take")))) [.ret (.bin .add (.call 47 [(.idx (.var 0) (.neg (.lit (.int 2))))]) (.call 47 [(.idx (.var 0) (.neg (.lit (.int 1))))]))] [],
    .ret (.lit (.int 1))]
def f_l_pass_count : Fn := ⟨1, 1, b_l_pass_count⟩
/-- 48 -/
def b_l_round_count : List S := [.ifs (.cmp .eq (.idx (.var 0) (.lit (.int 0))) (.lit (.str "often"))) [.ret (.bin .add (.call 47 [(.idx (.var 0) (.lit (.int 1)))]) (.call 48 [(.idx (.var 0) (.lit (.int 1)))]))] [],
    .ifs (.cmp .isin (.idx (.var 0) (.lit (.int 0))) (.tup [(.lit (.str "then")), (.lit (.str "either")), (.lit (.str "take"))])) [.ret (.bin .add (.call 48 [(.idx (.var 0) (.neg (.lit (.int 2))))]) (.call 48 [(.idx (.var 0) (.neg (.lit (.int 1))))]))] [],
    .ret (.lit (.int 0))]
def f_l_round_count : Fn := ⟨1, 1, b_l_round_count⟩
/-- 49 -/
def b_l_deed_body : List S := [.asg (.nm 4) (.call 11 [(.var 0), (.var 1), (.cell (.lst [(.bin .sub (.var 2) (.lit (.int 1)))])), (.lit (.int 5))]), .ifs (.cmp .gt (.bin .add (.call 47 [(.var 4)]) (.call 48 [(.var 4)])) (.var 3)) [.asg (.nm 4) (.tup [(.lit (.str "then")), (.tup [(.lit (.str "often")), (.call 10 [(.var 0), (.var 1)])]), (.call 10 [(.var 0), (.var 1)])])] [],
    .ret (.var 4)]
def f_l_deed_body : Fn := ⟨4, 5, b_l_deed_body⟩
/-- 50 -/
def b_l_house : List S := [.asg (.nm 4) (.call 7 [(.var 0), (.lit (.int 8))]), .asg (.nm 5) (.blt .tuple [(.slc (.var 4) none (some (.call 6 [(.var 0), (.bin .add (.var 1) (.lit (.int 1)))])))]), .asg (.nm 6) (.idx (.lst [(.lit (.int 0)), (.lit (.int 4))]) (.call 6 [(.var 0), (.lit (.int 2))])), .asg (.nm 7) (.bin .add (.lit (.int 1)) (.call 6 [(.var 0), (.var 2)])), .asg (.nm 8) (.comp [9] (.nm 9) (.irng (.var 7)) none (.tup [(.idx (.var 4) (.bin .add (.var 6) (.var 9))), (.call 49 [(.var 0), (.var 5), (.var 3), (.bin .fdiv (.lit (.int 24)) (.var 7))])])), .ret (.tup [(.var 5), (.blt .tuple [(.var 8)])])]
def f_l_house : Fn := ⟨4, 10, b_l_house⟩
/-- 61 -/
def b_common : List S := [.whl (.cmp .gt (.var 1) (.lit (.int 0))) [.par2 0 1 (.var 1) (.bin .mod (.var 0) (.var 1))], .ret (.var 0)]
def f_common : Fn := ⟨2, 2, b_common⟩
/-- 62 -/
def b_fraction : List S := [.ifs (.cmp .lt (.var 1) (.lit (.int 0))) [.par2 0 1 (.bin .sub (.lit (.int 0)) (.var 0)) (.bin .sub (.lit (.int 0)) (.var 1))] [], .asg (.nm 2) (.call 61 [(.blt .abs [(.var 0)]), (.var 1)]), .ret (.tup [(.bin .fdiv (.var 0) (.var 2)), (.bin .fdiv (.var 1) (.var 2))])]
def f_fraction : Fn := ⟨2, 3, b_fraction⟩
/-- 63 -/
def b_plus : List S := [.ret (.call 62 [(.bin .add (.bin .mul (.idx (.var 0) (.lit (.int 0))) (.idx (.var 1) (.lit (.int 1)))) (.bin .mul (.idx (.var 1) (.lit (.int 0))) (.idx (.var 0) (.lit (.int 1))))), (.bin .mul (.idx (.var 0) (.lit (.int 1))) (.idx (.var 1) (.lit (.int 1))))])]
def f_plus : Fn := ⟨2, 2, b_plus⟩
/-- 64 -/
def b_minus : List S := [.ret (.call 62 [(.bin .sub (.bin .mul (.idx (.var 0) (.lit (.int 0))) (.idx (.var 1) (.lit (.int 1)))) (.bin .mul (.idx (.var 1) (.lit (.int 0))) (.idx (.var 0) (.lit (.int 1))))), (.bin .mul (.idx (.var 0) (.lit (.int 1))) (.idx (.var 1) (.lit (.int 1))))])]
def f_minus : Fn := ⟨2, 2, b_minus⟩
/-- 65 -/
def b_times : List S := [.ret (.call 62 [(.bin .mul (.idx (.var 0) (.lit (.int 0))) (.idx (.var 1) (.lit (.int 0)))), (.bin .mul (.idx (.var 0) (.lit (.int 1))) (.idx (.var 1) (.lit (.int 1))))])]
def f_times : Fn := ⟨2, 2, b_times⟩
/-- 66 -/
def b_l_lowest : List S := [.ifs (.cmp .lt (.var 1) (.lit (.int 0))) [.par2 0 1 (.bin .sub (.lit (.int 0)) (.var 0)) (.bin .sub (.lit (.int 0)) (.var 1))] [],
    .par2 2 3 (.blt .max2 [(.var 0), (.bin .sub (.lit (.int 0)) (.var 0))]) (.var 1), .whl (.cmp .gt (.var 3) (.lit (.int 0))) [.par2 2 3 (.var 3) (.bin .mod (.var 2) (.var 3))],
    .ret (.tup [(.bin .fdiv (.var 0) (.var 2)), (.bin .fdiv (.var 1) (.var 2))])]
def f_l_lowest : Fn := ⟨2, 4, b_l_lowest⟩
/-- 79 -/
def b_l_other : List S := [.ifs (.blt .isTuple [(.var 1)]) [.asg (.nm 2) (.lst [(.tup []), (.bin .add (.var 1) (.tup [(.tup [])])), (.bin .add (.tup [(.tup [])]) (.var 1)), (.slc (.var 1) none (some (.neg (.lit (.int 1))))), (.slc (.var 1) (some (.lit (.int 1))) none), (.revt false (.var 1)), (.bin .add (.tup [(.lit (.int 0))]) (.var 1)), (.tup [(.lit (.int 1)), (.var 1)]), (.lit (.int 0)), (.lit (.int 1))]), .asg (.nm 2) (.bin .add (.var 2) (.lst [(.bin .add (.var 1) (.slc (.var 1) none (some (.lit (.int 1))))), (.tup [(.var 1)]), (.bin .add (.var 1) (.tup [(.tup [(.lit (.int 1)), (.tup [])])]))])), .ret (.idx (.var 2) (.call 6 [(.var 0), (.blt .len [(.var 2)])]))] [],
    .ret (.idx (.lst [(.bin .add (.var 1) (.lit (.int 1))), (.bin .sub (.var 1) (.lit (.int 1))), (.lit (.int 0)), (.neg (.lit (.int 1))), (.lit (.int 2)), (.tup []), (.tup [(.var 1)]), (.lit (.int 1)), (.bin .pow (.lit (.int 10)) (.lit (.int 6))), (.bin .sub (.lit (.int 0)) (.var 1))]) (.call 6 [(.var 0), (.lit (.int 10))]))]
def f_l_other : Fn := ⟨2, 3, b_l_other⟩
/-- 80 -/
def b_l_put : List S := [.put (.var 2) (.lit (.int 0)) (.bin .sub (.idx (.var 2) (.lit (.int 0))) (.lit (.int 1))), .ifs (.cmp .eq (.idx (.var 2) (.lit (.int 0))) (.neg (.lit (.int 1)))) [.ret (.call 79 [(.var 0), (.var 1)])] [],
    .ifs (.blt .isTuple [(.var 1)]) [.ret (.blt .tuple [(.comp [3] (.nm 3) (.var 1) none (.call 80 [(.var 0), (.var 3), (.var 2)]))])] [],
    .ret (.var 1)]
def f_l_put : Fn := ⟨3, 4, b_l_put⟩
/-- 87 -/
def b_cut : List S := [.ret (.tup [(.idx (.var 0) (.lit (.int 0))), (.bin .add (.slc (.idx (.var 0) (.lit (.int 1))) none (some (.var 1))) (.slc (.idx (.var 0) (.lit (.int 1))) (some (.bin .add (.var 1) (.lit (.int 1)))) none))])]
def f_cut : Fn := ⟨2, 2, b_cut⟩
/-- 88 -/
def b_l_some_house : List S := [.asg (.nm 1) (.call 7 [(.var 0), (.lit (.int 8))]), .asg (.tp [(.nm 2), (.nm 3)]) (.tup [(.blt .tuple [(.slc (.var 1) none (some (.call 6 [(.var 0), (.lit (.int 5))])))]), (.bin .add (.lit (.int 2)) (.call 6 [(.var 0), (.lit (.int 3))]))]), .own 4 (.comp [5] (.nm 5) (.irng (.var 3)) none (.call 49 [(.var 0), (.var 2), (.lit (.int 10)), (.bin .fdiv (.lit (.int 24)) (.var 3))])), .ifs (.cmp .eq (.call 6 [(.var 0), (.lit (.int 3))]) (.lit (.int 0))) [.put (.var 4) (.call 6 [(.var 0), (.var 3)]) (.idx (.var 4) (.lit (.int 0)))] [],
    .share 4, .asg (.nm 6) (.idx (.lst [(.lit (.int 0)), (.lit (.int 4))]) (.call 6 [(.var 0), (.lit (.int 2))])), .ret (.tup [(.var 2), (.blt .tuple [(.comp [5] (.nm 5) (.irng (.var 3)) none (.tup [(.idx (.var 1) (.bin .add (.var 6) (.var 5))), (.idx (.var 4) (.var 5))]))])])]
def f_l_some_house : Fn := ⟨1, 7, b_l_some_house⟩
/-- 89 -/
def b_l_due : List S := [.ret (.tup [(.idx (.var 0) (.lit (.int 0))), (.blt .tuple [(.comp [2, 3] (.tp [(.nm 2), (.nm 3)]) (.ienum (.idx (.var 0) (.lit (.int 1)))) (some (.cmp .ne (.var 2) (.var 1))) (.var 3))])])]
def f_l_due : Fn := ⟨2, 4, b_l_due⟩
/-- 90 -/
def b_l_one_left : List S := [.whl (.cmp .gt (.blt .len [(.idx (.var 1) (.lit (.int 1)))]) (.lit (.int 1))) [.asg (.nm 2) (.call 6 [(.var 0), (.blt .len [(.idx (.var 1) (.lit (.int 1)))])]), .asg (.nm 3) (.call 87 [(.var 1), (.var 2)]), .ifs (.cmp .ne (.blt .repr [(.var 3)]) (.blt .repr [(.call 89 [(.var 1), (.var 2)])])) [.ret (.lit (.bl false))] [],
    .asg (.nm 1) (.var 3)],
    .ret (.cmp .eq (.blt .len [(.idx (.var 1) (.lit (.int 1)))]) (.lit (.int 1)))]
def f_l_one_left : Fn := ⟨2, 4, b_l_one_left⟩
/-- 91 -/
def b_law_k50 : List S := [.asg (.nm 1) (.call 5 [(.var 0), (.lit (.int 0))]), .fors (.nm 2) (.irng (.lit (.int 2))) [.asg (.nm 3) (.call 88 [(.var 1)]), .asg (.nm 4) (.blt .repr [(.var 3)]), .fors (.nm 5) (.irng (.lit (.int 2))) [.fors (.nm 6) (.irng (.blt .len [(.idx (.var 3) (.lit (.int 1)))])) [.ifs (.or (.cmp .ne (.blt .repr [(.call 87 [(.var 3), (.var 6)])]) (.blt .repr [(.call 89 [(.var 3), (.var 6)])])) (.cmp .ne (.blt .repr [(.var 3)]) (.var 4))) [.ret (.lit (.bl false))] []]],
    .ifs (.not (.call 90 [(.var 1), (.var 3)])) [.ret (.lit (.bl false))] []],
    .ret (.lit (.bl true))]
def f_law_k50 : Fn := ⟨1, 7, b_law_k50⟩
def U : FT := [(1, f_many_rows), (2, f_begin), (3, f_lay), (4, f_chart), (5, f_l_deal), (6, f_l_draw), (7, f_l_words), (8, f_l_low), (9, f_l_cost), (10, f_l_leaf), (11, f_l_body), (12, f_l_used), (13, f_l_many), (14, f_l_rows), (15, f_l_alike), (16, f_l_right), (18, f_is_number_from_one), (19, f_is_going), (20, f_is_trace), (21, f_l_trace), (22, f_l_number), (23, f_l_is), (24, f_l_count), (29, f_plain_trace), (30, f_oftens), (31, f_led_to), (32, f_l_plain), (33, f_l_ways), (34, f_l_led), (35, f_l_alike_2), (39, f_l_done), (40, f_l_gone), (47, f_l_pass_count), (48, f_l_round_count), (49, f_l_deed_body), (50, f_l_house), (61, f_common), (62, f_fraction), (63, f_plus), (64, f_minus), (65, f_times), (66, f_l_lowest), (79, f_l_other), (80, f_l_put), (87, f_cut), (88, f_l_some_house), (89, f_l_due), (90, f_l_one_left), (91, f_law_k50)]
def G : GT := []
theorem u_many_rows : atT U 1 = some f_many_rows := by kernel_rfl
theorem c_many_rows {K : Nat} {μ : Sto} {Q : RV → Sto → Prop} {E : XQ} {a0 : D} : Wp (callP U G (K + 1) 1 [a0]) μ Q E ↔ Rs (callP U G K) G b_many_rows [.val a0] μ (FinQ Q E ()) := wp_call u_many_rows rfl
theorem u_begin : atT U 2 = some f_begin := by kernel_rfl
theorem c_begin {K : Nat} {μ : Sto} {Q : RV → Sto → Prop} {E : XQ} {a0 a1 a2 : D} : Wp (callP U G (K + 1) 2 [a0, a1, a2]) μ Q E ↔ Rs (callP U G K) G b_begin [.val a0, .val a1, .val a2] μ (FinQ Q E ()) := wp_call u_begin rfl
theorem u_lay : atT U 3 = some f_lay := by kernel_rfl
theorem c_lay {K : Nat} {μ : Sto} {Q : RV → Sto → Prop} {E : XQ} {a0 a1 a2 : D} : Wp (callP U G (K + 1) 3 [a0, a1, a2]) μ Q E ↔ Rs (callP U G K) G b_lay [.val a0, .val a1, .val a2, .none, .none, .none] μ (FinQ Q E ()) := wp_call u_lay rfl
theorem u_chart : atT U 4 = some f_chart := by kernel_rfl
theorem c_chart {K : Nat} {μ : Sto} {Q : RV → Sto → Prop} {E : XQ} {a0 : D} : Wp (callP U G (K + 1) 4 [a0]) μ Q E ↔ Rs (callP U G K) G b_chart [.val a0, .none] μ (FinQ Q E ()) := wp_call u_chart rfl
theorem u_l_deal : atT U 5 = some f_l_deal := by kernel_rfl
theorem c_l_deal {K : Nat} {μ : Sto} {Q : RV → Sto → Prop} {E : XQ} {a0 a1 : D} : Wp (callP U G (K + 1) 5 [a0, a1]) μ Q E ↔ Rs (callP U G K) G b_l_deal [.val a0, .val a1, .none, .none, .none] μ (FinQ Q E ()) := wp_call u_l_deal rfl
theorem u_l_draw : atT U 6 = some f_l_draw := by kernel_rfl
theorem c_l_draw {K : Nat} {μ : Sto} {Q : RV → Sto → Prop} {E : XQ} {a0 a1 : D} : Wp (callP U G (K + 1) 6 [a0, a1]) μ Q E ↔ Rs (callP U G K) G b_l_draw [.val a0, .val a1, .none, .none, .none] μ (FinQ Q E ()) := wp_call u_l_draw rfl
theorem u_l_words : atT U 7 = some f_l_words := by kernel_rfl
theorem c_l_words {K : Nat} {μ : Sto} {Q : RV → Sto → Prop} {E : XQ} {a0 a1 : D} : Wp (callP U G (K + 1) 7 [a0, a1]) μ Q E ↔ Rs (callP U G K) G b_l_words [.val a0, .val a1, .none, .none, .none, .none, .none, .none, .none, .none, .none, .none] μ (FinQ Q E ()) := wp_call u_l_words rfl
theorem u_l_low : atT U 8 = some f_l_low := by kernel_rfl
theorem c_l_low {K : Nat} {μ : Sto} {Q : RV → Sto → Prop} {E : XQ} {a0 a1 : D} : Wp (callP U G (K + 1) 8 [a0, a1]) μ Q E ↔ Rs (callP U G K) G b_l_low [.val a0, .val a1, .none, .none] μ (FinQ Q E ()) := wp_call u_l_low rfl
theorem u_l_cost : atT U 9 = some f_l_cost := by kernel_rfl
theorem c_l_cost {K : Nat} {μ : Sto} {Q : RV → Sto → Prop} {E : XQ} {a0 : D} : Wp (callP U G (K + 1) 9 [a0]) μ Q E ↔ Rs (callP U G K) G b_l_cost [.val a0, .none] μ (FinQ Q E ()) := wp_call u_l_cost rfl
theorem u_l_leaf : atT U 10 = some f_l_leaf := by kernel_rfl
theorem c_l_leaf {K : Nat} {μ : Sto} {Q : RV → Sto → Prop} {E : XQ} {a0 a1 : D} : Wp (callP U G (K + 1) 10 [a0, a1]) μ Q E ↔ Rs (callP U G K) G b_l_leaf [.val a0, .val a1, .none, .none] μ (FinQ Q E ()) := wp_call u_l_leaf rfl
theorem u_l_body : atT U 11 = some f_l_body := by kernel_rfl
theorem c_l_body {K : Nat} {μ : Sto} {Q : RV → Sto → Prop} {E : XQ} {a0 a1 a2 a3 : D} : Wp (callP U G (K + 1) 11 [a0, a1, a2, a3]) μ Q E ↔ Rs (callP U G K) G b_l_body [.val a0, .val a1, .val a2, .val a3, .none, .none, .none, .none] μ (FinQ Q E ()) := wp_call u_l_body rfl
theorem u_l_used : atT U 12 = some f_l_used := by kernel_rfl
theorem c_l_used {K : Nat} {μ : Sto} {Q : RV → Sto → Prop} {E : XQ} {a0 a1 a2 : D} : Wp (callP U G (K + 1) 12 [a0, a1, a2]) μ Q E ↔ Rs (callP U G K) G b_l_used [.val a0, .val a1, .val a2, .none] μ (FinQ Q E ()) := wp_call u_l_used rfl
theorem u_l_many : atT U 13 = some f_l_many := by kernel_rfl
theorem c_l_many {K : Nat} {μ : Sto} {Q : RV → Sto → Prop} {E : XQ} {a0 : D} : Wp (callP U G (K + 1) 13 [a0]) μ Q E ↔ Rs (callP U G K) G b_l_many [.val a0] μ (FinQ Q E ()) := wp_call u_l_many rfl
theorem u_l_rows : atT U 14 = some f_l_rows := by kernel_rfl
theorem c_l_rows {K : Nat} {μ : Sto} {Q : RV → Sto → Prop} {E : XQ} {a0 a1 a2 : D} : Wp (callP U G (K + 1) 14 [a0, a1, a2]) μ Q E ↔ Rs (callP U G K) G b_l_rows [.val a0, .val a1, .val a2, .none, .none, .none, .none] μ (FinQ Q E ()) := wp_call u_l_rows rfl
theorem u_l_alike : atT U 15 = some f_l_alike := by kernel_rfl
theorem c_l_alike {K : Nat} {μ : Sto} {Q : RV → Sto → Prop} {E : XQ} {a0 a1 : D} : Wp (callP U G (K + 1) 15 [a0, a1]) μ Q E ↔ Rs (callP U G K) G b_l_alike [.val a0, .val a1, .none, .none] μ (FinQ Q E ()) := wp_call u_l_alike rfl
theorem u_l_right : atT U 16 = some f_l_right := by kernel_rfl
theorem c_l_right {K : Nat} {μ : Sto} {Q : RV → Sto → Prop} {E : XQ} {a0 : D} : Wp (callP U G (K + 1) 16 [a0]) μ Q E ↔ Rs (callP U G K) G b_l_right [.val a0, .none] μ (FinQ Q E ()) := wp_call u_l_right rfl
theorem u_is_number_from_one : atT U 18 = some f_is_number_from_one := by kernel_rfl
theorem c_is_number_from_one {K : Nat} {μ : Sto} {Q : RV → Sto → Prop} {E : XQ} {a0 : D} : Wp (callP U G (K + 1) 18 [a0]) μ Q E ↔ Rs (callP U G K) G b_is_number_from_one [.val a0] μ (FinQ Q E ()) := wp_call u_is_number_from_one rfl
theorem u_is_going : atT U 19 = some f_is_going := by kernel_rfl
theorem c_is_going {K : Nat} {μ : Sto} {Q : RV → Sto → Prop} {E : XQ} {a0 a1 : D} : Wp (callP U G (K + 1) 19 [a0, a1]) μ Q E ↔ Rs (callP U G K) G b_is_going [.val a0, .val a1] μ (FinQ Q E ()) := wp_call u_is_going rfl
theorem u_is_trace : atT U 20 = some f_is_trace := by kernel_rfl
theorem c_is_trace {K : Nat} {μ : Sto} {Q : RV → Sto → Prop} {E : XQ} {a0 a1 : D} : Wp (callP U G (K + 1) 20 [a0, a1]) μ Q E ↔ Rs (callP U G K) G b_is_trace [.val a0, .val a1, .none, .none] μ (FinQ Q E ()) := wp_call u_is_trace rfl
theorem u_l_trace : atT U 21 = some f_l_trace := by kernel_rfl
theorem c_l_trace {K : Nat} {μ : Sto} {Q : RV → Sto → Prop} {E : XQ} {a0 a1 a2 : D} : Wp (callP U G (K + 1) 21 [a0, a1, a2]) μ Q E ↔ Rs (callP U G K) G b_l_trace [.val a0, .val a1, .val a2, .none, .none, .none, .none] μ (FinQ Q E ()) := wp_call u_l_trace rfl
theorem u_l_number : atT U 22 = some f_l_number := by kernel_rfl
theorem c_l_number {K : Nat} {μ : Sto} {Q : RV → Sto → Prop} {E : XQ} {a0 : D} : Wp (callP U G (K + 1) 22 [a0]) μ Q E ↔ Rs (callP U G K) G b_l_number [.val a0] μ (FinQ Q E ()) := wp_call u_l_number rfl
theorem u_l_is : atT U 23 = some f_l_is := by kernel_rfl
theorem c_l_is {K : Nat} {μ : Sto} {Q : RV → Sto → Prop} {E : XQ} {a0 a1 : D} : Wp (callP U G (K + 1) 23 [a0, a1]) μ Q E ↔ Rs (callP U G K) G b_l_is [.val a0, .val a1, .none] μ (FinQ Q E ()) := wp_call u_l_is rfl
theorem u_l_count : atT U 24 = some f_l_count := by kernel_rfl
theorem c_l_count {K : Nat} {μ : Sto} {Q : RV → Sto → Prop} {E : XQ} {a0 : D} : Wp (callP U G (K + 1) 24 [a0]) μ Q E ↔ Rs (callP U G K) G b_l_count [.val a0, .none] μ (FinQ Q E ()) := wp_call u_l_count rfl
theorem u_plain_trace : atT U 29 = some f_plain_trace := by kernel_rfl
theorem c_plain_trace {K : Nat} {μ : Sto} {Q : RV → Sto → Prop} {E : XQ} {a0 : D} : Wp (callP U G (K + 1) 29 [a0]) μ Q E ↔ Rs (callP U G K) G b_plain_trace [.val a0] μ (FinQ Q E ()) := wp_call u_plain_trace rfl
theorem u_oftens : atT U 30 = some f_oftens := by kernel_rfl
theorem c_oftens {K : Nat} {μ : Sto} {Q : RV → Sto → Prop} {E : XQ} {a0 : D} : Wp (callP U G (K + 1) 30 [a0]) μ Q E ↔ Rs (callP U G K) G b_oftens [.val a0] μ (FinQ Q E ()) := wp_call u_oftens rfl
theorem u_led_to : atT U 31 = some f_led_to := by kernel_rfl
theorem c_led_to {K : Nat} {μ : Sto} {Q : RV → Sto → Prop} {E : XQ} {a0 a1 a2 : D} : Wp (callP U G (K + 1) 31 [a0, a1, a2]) μ Q E ↔ Rs (callP U G K) G b_led_to [.val a0, .val a1, .val a2, .none] μ (FinQ Q E ()) := wp_call u_led_to rfl
theorem u_l_plain : atT U 32 = some f_l_plain := by kernel_rfl
theorem c_l_plain {K : Nat} {μ : Sto} {Q : RV → Sto → Prop} {E : XQ} {a0 : D} : Wp (callP U G (K + 1) 32 [a0]) μ Q E ↔ Rs (callP U G K) G b_l_plain [.val a0, .none] μ (FinQ Q E ()) := wp_call u_l_plain rfl
theorem u_l_ways : atT U 33 = some f_l_ways := by kernel_rfl
theorem c_l_ways {K : Nat} {μ : Sto} {Q : RV → Sto → Prop} {E : XQ} {a0 : D} : Wp (callP U G (K + 1) 33 [a0]) μ Q E ↔ Rs (callP U G K) G b_l_ways [.val a0, .none, .none, .none, .none] μ (FinQ Q E ()) := wp_call u_l_ways rfl
theorem u_l_led : atT U 34 = some f_l_led := by kernel_rfl
theorem c_l_led {K : Nat} {μ : Sto} {Q : RV → Sto → Prop} {E : XQ} {a0 a1 a2 : D} : Wp (callP U G (K + 1) 34 [a0, a1, a2]) μ Q E ↔ Rs (callP U G K) G b_l_led [.val a0, .val a1, .val a2, .none] μ (FinQ Q E ()) := wp_call u_l_led rfl
theorem u_l_alike_2 : atT U 35 = some f_l_alike_2 := by kernel_rfl
theorem c_l_alike_2 {K : Nat} {μ : Sto} {Q : RV → Sto → Prop} {E : XQ} {a0 a1 : D} : Wp (callP U G (K + 1) 35 [a0, a1]) μ Q E ↔ Rs (callP U G K) G b_l_alike_2 [.val a0, .val a1, .none, .none] μ (FinQ Q E ()) := wp_call u_l_alike_2 rfl
theorem u_l_done : atT U 39 = some f_l_done := by kernel_rfl
theorem c_l_done {K : Nat} {μ : Sto} {Q : RV → Sto → Prop} {E : XQ} {a0 a1 : D} : Wp (callP U G (K + 1) 39 [a0, a1]) μ Q E ↔ Rs (callP U G K) G b_l_done [.val a0, .val a1, .none, .none, .none] μ (FinQ Q E ()) := wp_call u_l_done rfl
theorem u_l_gone : atT U 40 = some f_l_gone := by kernel_rfl
theorem c_l_gone {K : Nat} {μ : Sto} {Q : RV → Sto → Prop} {E : XQ} {a0 a1 : D} : Wp (callP U G (K + 1) 40 [a0, a1]) μ Q E ↔ Rs (callP U G K) G b_l_gone [.val a0, .val a1, .none, .none, .none, .none, .none, .none] μ (FinQ Q E ()) := wp_call u_l_gone rfl
theorem u_l_pass_count : atT U 47 = some f_l_pass_count := by kernel_rfl
theorem c_l_pass_count {K : Nat} {μ : Sto} {Q : RV → Sto → Prop} {E : XQ} {a0 : D} : Wp (callP U G (K + 1) 47 [a0]) μ Q E ↔ Rs (callP U G K) G b_l_pass_count [.val a0] μ (FinQ Q E ()) := wp_call u_l_pass_count rfl
theorem u_l_round_count : atT U 48 = some f_l_round_count := by kernel_rfl
theorem c_l_round_count {K : Nat} {μ : Sto} {Q : RV → Sto → Prop} {E : XQ} {a0 : D} : Wp (callP U G (K + 1) 48 [a0]) μ Q E ↔ Rs (callP U G K) G b_l_round_count [.val a0] μ (FinQ Q E ()) := wp_call u_l_round_count rfl
theorem u_l_deed_body : atT U 49 = some f_l_deed_body := by kernel_rfl
theorem c_l_deed_body {K : Nat} {μ : Sto} {Q : RV → Sto → Prop} {E : XQ} {a0 a1 a2 a3 : D} : Wp (callP U G (K + 1) 49 [a0, a1, a2, a3]) μ Q E ↔ Rs (callP U G K) G b_l_deed_body [.val a0, .val a1, .val a2, .val a3, .none] μ (FinQ Q E ()) := wp_call u_l_deed_body rfl
theorem u_l_house : atT U 50 = some f_l_house := by kernel_rfl
theorem c_l_house {K : Nat} {μ : Sto} {Q : RV → Sto → Prop} {E : XQ} {a0 a1 a2 a3 : D} : Wp (callP U G (K + 1) 50 [a0, a1, a2, a3]) μ Q E ↔ Rs (callP U G K) G b_l_house [.val a0, .val a1, .val a2, .val a3, .none, .none, .none, .none, .none, .none] μ (FinQ Q E ()) := wp_call u_l_house rfl
theorem u_common : atT U 61 = some f_common := by kernel_rfl
theorem c_common {K : Nat} {μ : Sto} {Q : RV → Sto → Prop} {E : XQ} {a0 a1 : D} : Wp (callP U G (K + 1) 61 [a0, a1]) μ Q E ↔ Rs (callP U G K) G b_common [.val a0, .val a1] μ (FinQ Q E ()) := wp_call u_common rfl
theorem u_fraction : atT U 62 = some f_fraction := by kernel_rfl
theorem c_fraction {K : Nat} {μ : Sto} {Q : RV → Sto → Prop} {E : XQ} {a0 a1 : D} : Wp (callP U G (K + 1) 62 [a0, a1]) μ Q E ↔ Rs (callP U G K) G b_fraction [.val a0, .val a1, .none] μ (FinQ Q E ()) := wp_call u_fraction rfl
theorem u_plus : atT U 63 = some f_plus := by kernel_rfl
theorem c_plus {K : Nat} {μ : Sto} {Q : RV → Sto → Prop} {E : XQ} {a0 a1 : D} : Wp (callP U G (K + 1) 63 [a0, a1]) μ Q E ↔ Rs (callP U G K) G b_plus [.val a0, .val a1] μ (FinQ Q E ()) := wp_call u_plus rfl
theorem u_minus : atT U 64 = some f_minus := by kernel_rfl
theorem c_minus {K : Nat} {μ : Sto} {Q : RV → Sto → Prop} {E : XQ} {a0 a1 : D} : Wp (callP U G (K + 1) 64 [a0, a1]) μ Q E ↔ Rs (callP U G K) G b_minus [.val a0, .val a1] μ (FinQ Q E ()) := wp_call u_minus rfl
theorem u_times : atT U 65 = some f_times := by kernel_rfl
theorem c_times {K : Nat} {μ : Sto} {Q : RV → Sto → Prop} {E : XQ} {a0 a1 : D} : Wp (callP U G (K + 1) 65 [a0, a1]) μ Q E ↔ Rs (callP U G K) G b_times [.val a0, .val a1] μ (FinQ Q E ()) := wp_call u_times rfl
theorem u_l_lowest : atT U 66 = some f_l_lowest := by kernel_rfl
theorem c_l_lowest {K : Nat} {μ : Sto} {Q : RV → Sto → Prop} {E : XQ} {a0 a1 : D} : Wp (callP U G (K + 1) 66 [a0, a1]) μ Q E ↔ Rs (callP U G K) G b_l_lowest [.val a0, .val a1, .none, .none] μ (FinQ Q E ()) := wp_call u_l_lowest rfl
theorem u_l_other : atT U 79 = some f_l_other := by kernel_rfl
theorem c_l_other {K : Nat} {μ : Sto} {Q : RV → Sto → Prop} {E : XQ} {a0 a1 : D} : Wp (callP U G (K + 1) 79 [a0, a1]) μ Q E ↔ Rs (callP U G K) G b_l_other [.val a0, .val a1, .none] μ (FinQ Q E ()) := wp_call u_l_other rfl
theorem u_l_put : atT U 80 = some f_l_put := by kernel_rfl
theorem c_l_put {K : Nat} {μ : Sto} {Q : RV → Sto → Prop} {E : XQ} {a0 a1 a2 : D} : Wp (callP U G (K + 1) 80 [a0, a1, a2]) μ Q E ↔ Rs (callP U G K) G b_l_put [.val a0, .val a1, .val a2, .none] μ (FinQ Q E ()) := wp_call u_l_put rfl
theorem u_cut : atT U 87 = some f_cut := by kernel_rfl
theorem c_cut {K : Nat} {μ : Sto} {Q : RV → Sto → Prop} {E : XQ} {a0 a1 : D} : Wp (callP U G (K + 1) 87 [a0, a1]) μ Q E ↔ Rs (callP U G K) G b_cut [.val a0, .val a1] μ (FinQ Q E ()) := wp_call u_cut rfl
theorem u_l_some_house : atT U 88 = some f_l_some_house := by kernel_rfl
theorem c_l_some_house {K : Nat} {μ : Sto} {Q : RV → Sto → Prop} {E : XQ} {a0 : D} : Wp (callP U G (K + 1) 88 [a0]) μ Q E ↔ Rs (callP U G K) G b_l_some_house [.val a0, .none, .none, .none, .none, .none, .none] μ (FinQ Q E ()) := wp_call u_l_some_house rfl
theorem u_l_due : atT U 89 = some f_l_due := by kernel_rfl
theorem c_l_due {K : Nat} {μ : Sto} {Q : RV → Sto → Prop} {E : XQ} {a0 a1 : D} : Wp (callP U G (K + 1) 89 [a0, a1]) μ Q E ↔ Rs (callP U G K) G b_l_due [.val a0, .val a1, .none, .none] μ (FinQ Q E ()) := wp_call u_l_due rfl
theorem u_l_one_left : atT U 90 = some f_l_one_left := by kernel_rfl
theorem c_l_one_left {K : Nat} {μ : Sto} {Q : RV → Sto → Prop} {E : XQ} {a0 a1 : D} : Wp (callP U G (K + 1) 90 [a0, a1]) μ Q E ↔ Rs (callP U G K) G b_l_one_left [.val a0, .val a1, .none, .none] μ (FinQ Q E ()) := wp_call u_l_one_left rfl
theorem u_law_k50 : atT U 91 = some f_law_k50 := by kernel_rfl
theorem c_law_k50 {K : Nat} {μ : Sto} {Q : RV → Sto → Prop} {E : XQ} {a0 : D} : Wp (callP U G (K + 1) 91 [a0]) μ Q E ↔ Rs (callP U G K) G b_law_k50 [.val a0, .none, .none, .none, .none, .none, .none] μ (FinQ Q E ()) := wp_call u_law_k50 rfl
end J
/-! S0: the deal and the draw. -/
namespace J
open PySem L2
/-- a deal at n, its list just ahead of it -/
structure Dl (n : Nat) where
  pre : List Cell
  hp : pre.length + 1 = n
  seed : Int
  number : Int
  left : List Int
  s0 : 0 ≤ seed
  s1 : seed < 2 ^ 32
  hl : left.length ≤ 64
def dealD (s a : Int) (m : Nat) : List (Key × D) := [(.inr "seed", .int s), (.inr "number", .int a), (.inr "left", .ref m)]
theorem find_seed {s a : Int} {m : Nat} : findK (dealD s a m) (.inr "seed") = some (.int s) := by kernel_rfl
theorem find_number {s a : Int} {m : Nat} : findK (dealD s a m) (.inr "number") = some (.int a) := by kernel_rfl
theorem find_left {s a : Int} {m : Nat} : findK (dealD s a m) (.inr "left") = some (.ref m) := by kernel_rfl
theorem set_seed {s a s' : Int} {m : Nat} : setK (dealD s a m) (.inr "seed") (.int s') = dealD s' a m := by kernel_rfl
theorem set_number {s a a' : Int} {m : Nat} : setK (dealD s a m) (.inr "number") (.int a') = dealD s a' m := by kernel_rfl
/-- the store: the deal, then these cells -/
def st {n : Nat} (x : Dl n) (R : List Cell) : Sto := x.pre ++ .lst (x.left.map .int) :: .dct (dealD x.seed x.number (n - 1)) :: R
section
variable {n : Nat} {x : Dl n} {R : List Cell}
theorem st_d : (st x R)[n]? = some (.dct (dealD x.seed x.number (n - 1))) := by
  unfold st
  have h := x.hp
  rw [List.getElem?_append_right (by omega), show n - x.pre.length = 0 + 1 by omega, List.getElem?_cons_succ, List.getElem?_cons_zero]
theorem st_l : (st x R)[n - 1]? = some (.lst (x.left.map .int)) := by
  unfold st
  have h := x.hp
  rw [List.getElem?_append_right (by omega), show n - 1 - x.pre.length = 0 by omega, List.getElem?_cons_zero]
theorem st_len : (st x R).length = n + 1 + R.length := by
  unfold st
  have h := x.hp
  simp only [List.length_append, List.length_cons]; omega
theorem st_app {c : Cell} : st x R ++ [c] = st x (R ++ [c]) := by unfold st; simp
theorem nw_st {c : Cell} {K : Nat → Sto → Prop} : Nw c (st x R) K ↔ K (n + 1 + R.length) (st x (R ++ [c])) := by rw [nw_, st_app, st_len]
theorem st_get {a j : Nat} (h : a = n + 1 + j) : (st x R)[a]? = R[j]? := by
  unfold st
  have hp := x.hp
  rw [List.getElem?_append_right (by omega), show a - x.pre.length = j + 1 + 1 by omega, List.getElem?_cons_succ, List.getElem?_cons_succ]
theorem st_set {a j : Nat} {c : Cell} (h : a = n + 1 + j) : (st x R).set a c = st x (R.set j c) := by
  unfold st
  have hp := x.hp
  rw [List.set_append_right _ _ (by omega), show a - x.pre.length = j + 1 + 1 by omega]; rfl
theorem st_num {a : Int} : (st x R).set n (.dct (dealD x.seed a (n - 1))) = st { x with number := a } R := by
  unfold st
  have hp := x.hp
  rw [List.set_append_right _ _ (by omega), show n - x.pre.length = 0 + 1 by omega]; rfl
theorem st_seed {a : Int} (h0 : 0 ≤ a) (h1 : a < 2 ^ 32) : (st x R).set n (.dct (dealD a x.number (n - 1))) = st { x with seed := a, s0 := h0, s1 := h1 } R := by
  unfold st
  have hp := x.hp
  rw [List.set_append_right _ _ (by omega), show n - x.pre.length = 0 + 1 by omega]; rfl
theorem st_left {q : List Int} (h : q.length ≤ 64) : (st x R).set (n - 1) (.lst (q.map .int)) = st { x with left := q, hl := h } R := by
  unfold st
  have hp := x.hp
  rw [List.set_append_right _ _ (by omega), show n - 1 - x.pre.length = 0 by omega]; rfl
end
theorem log_lt {a : Int} {k : Nat} (h : a.natAbs < 2 ^ k) (hk : 0 < k) : a.natAbs.log2 < k := by
  by_cases h0 : a.natAbs = 0
  · rw [h0]; exact hk
  · exact (Nat.log2_lt h0).mpr h
theorem mul_ok {a b : Int} (ha : a.natAbs < 2 ^ 200) (hb : b.natAbs < 2 ^ 200) : a.natAbs.log2 + b.natAbs.log2 < 1000000 := by
  have h1 := log_lt ha (by decide)
  have h2 := log_lt hb (by decide)
  omega
theorem nat_small {a : Int} (h0 : 0 ≤ a) (h1 : a < 2 ^ 64) : a.natAbs < 2 ^ 200 := by omega
theorem mul_sm {a b : Int} (a0 : 0 ≤ a) (a1 : a < 2 ^ 64) (b0 : 0 ≤ b) (b1 : b < 2 ^ 64) : a.natAbs.log2 + b.natAbs.log2 < 1000000 := mul_ok (nat_small a0 a1) (nat_small b0 b1)
theorem log_sm {a : Int} (a0 : 0 ≤ a) (a1 : a < 2 ^ 64) : a.natAbs.log2 < 9000 := by
  have := log_lt (nat_small a0 a1) (by decide); omega
section
variable {n k : Nat} {x : Dl n} {R : List Cell} {Q : RV → Sto → Prop} {E : XQ} {many : Int}
theorem ix_number : Ix (.ref n) (.str "number") (st x R) Q ↔ Q (.v (.int x.number)) (st x R) := ix_dk (key := .inr "number") st_d rfl find_number
theorem ix_seed : Ix (.ref n) (.str "seed") (st x R) Q ↔ Q (.v (.int x.seed)) (st x R) := ix_dk (key := .inr "seed") st_d rfl find_seed
theorem ix_left : Ix (.ref n) (.str "left") (st x R) Q ↔ Q (.v (.ref (n - 1))) (st x R) := ix_dk (key := .inr "left") st_d rfl find_left
theorem len_left : Bl .len [.ref (n - 1)] (st x R) Q ↔ Q (.v (.int x.left.length)) (st x R) := by rw [bl_len_ref st_l, List.length_map]
theorem mc_left {K : Sto → Prop} : Mc .pop (.ref (n - 1)) (st x R) K ↔ K (st x R) := mc_pop st_l
theorem pm_number {ρ : Env} {a : Int} {S : Flo → Sto → Prop} : Pm ρ (.v (.ref n)) (.str "number") (.int a) (st x R) S ↔ S (.nx ρ) (st { x with number := a } R) := by
  rw [pm_dct (key := .inr "number") st_d rfl (by show 3 ≤ 1000; omega), set_number, st_num]
theorem pm_seed {ρ : Env} {a : Int} {S : Flo → Sto → Prop} (h0 : 0 ≤ a) (h1 : a < 2 ^ 32) : Pm ρ (.v (.ref n)) (.str "seed") (.int a) (st x R) S ↔ S (.nx ρ) (st { x with seed := a, s0 := h0, s1 := h1 } R) := by
  rw [pm_dct (key := .inr "seed") st_d rfl (by show 3 ≤ 1000; omega), set_seed, st_seed h0 h1]
theorem draw_ok (h0 : 0 < many) (h1 : many < 2 ^ 64) (q : ∀ (r : Int) (x : Dl n), 0 ≤ r → r < many → Q (.v (.int r)) (st x R)) : Wp (callP U G (k + 1) 6 [.ref n, .int many]) (st x R) Q E := by
  rw [c_l_draw]; unfold b_l_draw
  simp -dsimp only [ev]
  refine whl_inv (fun j ρ μ => ∃ x : Dl n, x.left.length = j ∧ ρ = [.val (.ref n), .val (.int many), .none, .none, .none] ∧ μ = st x R) (n := x.left.length) (by have := x.hl; omega) ⟨x, rfl, rfl, rfl⟩ ?_
  rintro j ρ μ ⟨x, rfl, rfl, rfl⟩
  simp -dsimp only [ev, ix_number, ix_left, len_left]
  refine br_d (fun e1 => ?_) fun e1 => ?_
  · simp -dsimp only [ev, ix_number, ix_left, len_left]
    refine br_d (fun e2 => ?_) fun e2 => ?_
    · simp -dsimp only [ev, ix_number, ix_left, len_left, mc_left]
      obtain ⟨q, z, hq⟩ : ∃ q z, x.left = q ++ [z] := ⟨x.left.dropLast, x.left.getLast (by intro e; rw [e] at e2; simp at e2), (List.dropLast_concat_getLast _).symm⟩
      have hs := st_l (x := x) (R := R)
      rw [hq, List.map_append, List.map_cons, List.map_nil] at hs
      have hl := x.hl
      rw [hq, List.length_append, List.length_singleton] at hl
      rw [mt_pop hs]
      rw [st_left (x := x) (q := q) (by omega)]
      simp -dsimp only [ev, pm_number]
      exact ⟨q.length, by rw [hq, List.length_append, List.length_singleton]; omega, _, rfl, trivial, rfl⟩
    · simp -dsimp only [ev, ix_number]
      refine br_d (fun e3 => by omega) fun e3 => ?_
      simp -dsimp only [ev, ix_seed]
      have hx := x.s0
      have hy := x.s1
      rw [bn_mul (mul_sm hx (by omega) (by decide) (by decide))]
      simp -dsimp only [ev]
      rw [bn_mod (by decide)]
      simp -dsimp only [ev]
      generalize hA : (x.seed * 48271 + 7919) % 2147483647 = A
      have a0 : 0 ≤ A := by rw [← hA]; exact Int.emod_nonneg _ (by decide)
      have a1 : A < 2147483647 := by rw [← hA]; exact Int.emod_lt_of_pos _ (by decide)
      rw [bn_mul (mul_sm a0 (by omega) (by decide) (by decide))]
      simp -dsimp only [ev]
      rw [bn_mod (by decide)]
      simp -dsimp only [ev]
      generalize hB : (A * 40692 + 104729) % 2147483399 = B
      have b0 : 0 ≤ B := by rw [← hB]; exact Int.emod_nonneg _ (by decide)
      have b1 : B < 2147483399 := by rw [← hB]; exact Int.emod_lt_of_pos _ (by decide)
      rw [pm_seed b0 (by omega)]
      simp -dsimp only [ev, ix_seed]
      rw [bn_mul (mul_sm b0 (by omega) b0 (by omega))]
      simp -dsimp only [ev]
      rw [bn_mod (by decide)]
      simp -dsimp only [ev]
      rw [bn_mul (mul_sm a0 (by omega) a0 (by omega))]
      simp -dsimp only [ev]
      rw [bn_mod (by decide)]
      simp -dsimp only [ev]
      have c0 := Int.emod_nonneg (A * A) (show (2147483629 : Int) ≠ 0 by decide)
      have c1 := Int.emod_lt_of_pos (A * A) (show (0 : Int) < 2147483629 by decide)
      rw [bn_mul (mul_sm c0 (by omega) (by decide) (by decide))]
      simp -dsimp only [ev]
      rw [bn_mod h0]
      simp -dsimp only [ev]
      exact q _ _ (Int.emod_nonneg _ (by omega)) (Int.emod_lt_of_pos _ h0)
  · simp -dsimp only [ev, ix_number]
    refine br_d (fun e2 => ?_) fun e2 => ?_
    · simp -dsimp only [ev]
      rw [bn_fdiv h0 (log_sm (by omega) h1)]
      simp -dsimp only [ev, pm_number]
      rw [bn_mod h0]
      simp -dsimp only [ev]
      exact q _ _ (Int.emod_nonneg _ (by omega)) (Int.emod_lt_of_pos _ h0)
    · simp -dsimp only [ev, ix_seed]
      have hx := x.s0
      have hy := x.s1
      rw [bn_mul (mul_sm hx (by omega) (by decide) (by decide))]
      simp -dsimp only [ev]
      rw [bn_mod (by decide)]
      simp -dsimp only [ev]
      generalize hA : (x.seed * 48271 + 7919) % 2147483647 = A
      have a0 : 0 ≤ A := by rw [← hA]; exact Int.emod_nonneg _ (by decide)
      have a1 : A < 2147483647 := by rw [← hA]; exact Int.emod_lt_of_pos _ (by decide)
      rw [bn_mul (mul_sm a0 (by omega) (by decide) (by decide))]
      simp -dsimp only [ev]
      rw [bn_mod (by decide)]
      simp -dsimp only [ev]
      generalize hB : (A * 40692 + 104729) % 2147483399 = B
      have b0 : 0 ≤ B := by rw [← hB]; exact Int.emod_nonneg _ (by decide)
      have b1 : B < 2147483399 := by rw [← hB]; exact Int.emod_lt_of_pos _ (by decide)
      rw [pm_seed b0 (by omega)]
      simp -dsimp only [ev, ix_seed]
      rw [bn_mul (mul_sm b0 (by omega) b0 (by omega))]
      simp -dsimp only [ev]
      rw [bn_mod (by decide)]
      simp -dsimp only [ev]
      rw [bn_mul (mul_sm a0 (by omega) a0 (by omega))]
      simp -dsimp only [ev]
      rw [bn_mod (by decide)]
      simp -dsimp only [ev]
      have c0 := Int.emod_nonneg (A * A) (show (2147483629 : Int) ≠ 0 by decide)
      have c1 := Int.emod_lt_of_pos (A * A) (show (0 : Int) < 2147483629 by decide)
      rw [bn_mul (mul_sm c0 (by omega) (by decide) (by decide))]
      simp -dsimp only [ev]
      rw [bn_mod h0]
      simp -dsimp only [ev]
      exact q _ _ (Int.emod_nonneg _ (by omega)) (Int.emod_lt_of_pos _ h0)
end
end J
/-! S1: the deal is made. -/
namespace J
open PySem L2
theorem cutD_map {α β : Type} {f : α → β} {xs : List α} {l h : Option Int} : cutD (xs.map f) l h = (cutD xs l h).map f := by
  unfold cutD; rw [List.length_map, List.map_take, List.map_drop]
theorem cutD_length {α : Type} {xs : List α} {lo hi : Option Int} : (cutD xs lo hi).length ≤ xs.length := by
  unfold cutD
  rw [List.length_take, List.length_drop]
  omega
theorem cutD_mem {α : Type} {xs : List α} {lo hi : Option Int} {x : α} (h : x ∈ cutD xs lo hi) : x ∈ xs := List.drop_subset _ _ (List.take_subset _ _ h)
theorem sc_src {ns : List Int} {l h : Option Int} {kk : RV → Prop} : Sc (.src ns) l h kk ↔ kk (.fr ((cutD ns l h).map .int)) := by
  show kk (.fr (cutD (ns.map .int) l h)) ↔ _
  rw [cutD_map]
theorem bn_pow {a b : Int} {kk : RV → Prop} (h0 : 0 ≤ b) (h1 : b ≤ 1000000) (h2 : a.natAbs < 2 ^ 64) : Bn .pow (.int a) (.int b) kk ↔ kk (.v (.int (a ^ b.toNat))) := by
  unfold Bn; simp only [binD, if_pos (And.intro h0 (And.intro h1 h2))]
section
variable {k : Nat} {Q : RV → Sto → Prop} {E : XQ} {P : Sto} {ns : List Int} {base : Int}
theorem deal_ok (hl : ns.length ≤ 63) (b0 : 0 ≤ base) (b1 : base < 2 ^ 20) (q : ∀ x : Dl (P.length + 1), Q (.v (.ref (P.length + 1))) (st x [])) : Wp (callP U G (k + 1) 5 [.src ns, .int base]) P Q E := by
  rw [c_l_deal]; unfold b_l_deal
  simp -dsimp only [ev, sc_src]
  have c1 : (cutD ns (some base) (some 63)).length ≤ 63 := Nat.le_trans cutD_length hl
  generalize cutD ns (some base) (some 63) = cs at c1
  rw [cmp_map (h := fun i => .int (if 0 - i > i then 0 - i else i)) (by omega) fun a _ R hR => by
    simp -dsimp only [ev]; exact hR]
  simp -dsimp only [ev]
  generalize hx : cs.map (fun i => if 0 - i > i then 0 - i else i) = xs
  have ex : (cs.map fun i => D.int (if 0 - i > i then 0 - i else i)) = xs.map .int := by rw [← hx, List.map_map]; rfl
  have x1 : xs.length ≤ 63 := by rw [← hx, List.length_map]; exact c1
  rw [ex]
  refine each_inv (fun r ρ μ => μ = P ∧ (∀ d ∈ r, ∃ i, d = D.int i) ∧ ∃ y num, ρ = [.val (.src ns), .val (.int base), .val (.lst (xs.map .int)), y, .val (.int num)] ∧ 0 ≤ num ∧ num < 2 ^ 32) ?_ ?_ ⟨rfl, fun d hd => by obtain ⟨i, _, rfl⟩ := List.mem_map.mp hd; exact ⟨i, rfl⟩, _, _, rfl, ?_⟩
  · rintro d r ρ μ ⟨rfl, hr, y, num, rfl, n0, n1⟩
    obtain ⟨i, rfl⟩ := hr d List.mem_cons_self
    simp -dsimp only [ev]
    rw [bn_mul (mul_sm n0 (by omega) (by decide) (by decide))]
    simp -dsimp only [ev]
    rw [bn_mod (by decide)]
    simp -dsimp only [ev]
    rw [bn_mod (by decide)]
    simp -dsimp only [ev]
    have q1 := Int.emod_nonneg (num * 48271 + i % 2147483629) (show (2147483647 : Int) ≠ 0 by decide)
    have q2 := Int.emod_lt_of_pos (num * 48271 + i % 2147483629) (show (0 : Int) < 2147483647 by decide)
    exact ⟨trivial, fun d hd => hr d (List.mem_cons_of_mem _ hd), _, _, rfl, q1, by omega⟩
  · rintro ρ μ ⟨rfl, -, y, num, rfl, n0, n1⟩
    simp -dsimp only [ev]
    rw [cmp_filt (p := fun i => decide ((10 : Int) ^ 18 ≤ i)) (h := D.int) (by omega) fun a _ R hR => by
      simp -dsimp only [ev]
      rw [bn_pow (by decide) (by decide) (by decide), show (10 : Int) ^ (18 : Int).toNat = 10 ^ 18 from rfl]
      simp -dsimp only [ev]
      refine br_d (fun h => ?_) fun h => ?_
      · simp -dsimp only [ev]
        simp only [decide_eq_true h, if_true] at hR; exact hR
      · simp only [decide_eq_false h, Bool.false_eq_true, if_false] at hR; exact hR]
    simp -dsimp only [ev, nw_]
    generalize hy : xs.filter (fun i => decide ((10 : Int) ^ 18 ≤ i)) = ys
    have y1 : ys.length ≤ 63 := by rw [← hy]; exact Nat.le_trans (List.length_filter_le _ _) x1
    refine ⟨⟨rfl, by decide, by decide +kernel⟩, ?_⟩
    simp -dsimp only [ev, nw_]
    have := q ⟨μ, rfl, num, 0, ys.reverse, n0, n1, by rw [List.length_reverse]; omega⟩
    unfold st at this
    simp only [List.map_reverse, Nat.add_sub_cancel] at this
    simp only [List.length_append, List.length_singleton, List.append_assoc, List.singleton_append]
    exact this
  · omega
end
end J
/-! S2: names. -/
namespace J
open PySem L2
theorem sml {n : Nat} (h : n ≤ 1000000) : n ≤ sizeLine := by rw [sizeLine_eq]; omega
def abc : Str := "abcdefghijklmnopqrstuvwxyz"
/-- a text of small letters -/
def wS (cs : List Nat) : Str := ⟨cs.toArray⟩
def Az (cs : List Nat) : Prop := ∀ c ∈ cs, 97 ≤ c ∧ c ≤ 122
theorem wS_len (cs : List Nat) : (wS cs).length = cs.length := by show cs.toArray.size = _; simp
theorem wS_tl (cs : List Nat) : (wS cs).cps.toList = cs := by show cs.toArray.toList = _; simp
theorem wS_inj {a b : List Nat} (h : wS a = wS b) : a = b := by have := congrArg (fun s : Str => s.cps.toList) h; simpa [wS] using this
theorem abc_tl : abc.cps.toList = (List.range 26).map (97 + ·) := by decide +kernel
theorem abc_len : abc.length = 26 := by decide +kernel
theorem abc_idx {r : Int} (h0 : 0 ≤ r) (h1 : r < 26) : idxD (.str abc) (.int r) = some (strD (97 + r.toNat)) := by
  simp only [idxD]
  rw [if_pos (sml (by rw [abc_len]; decide)), abc_tl]
  unfold atI ixN
  rw [if_pos h0, if_pos (by simp; omega)]
  simp only [Option.bind_some, List.getElem?_map]
  rw [List.getElem?_range (by omega)]
  rfl
theorem abc_occ : ∀ r : Fin 26, ((Builtin.Str.occurrences abc ⟨#[97 + (r : Nat)]⟩ 0 abc.length 1).headD 100 == (r : Nat)) = true := by decide +kernel
theorem abc_ix {c : Nat} (h0 : 97 ≤ c) (h1 : c ≤ 122) : methD .sindex (.str abc) [strD c] = some (.v (.int ((c - 97 : Nat) : Int))) := by
  have := abc_occ ⟨c - 97, by omega⟩
  simp only [show 97 + (c - 97) = c by omega] at this
  simp only [methD, strD]
  cases q : Builtin.Str.occurrences abc ⟨#[c]⟩ 0 abc.length 1 with
  | nil => rw [q] at this; simp at this; omega
  | cons i r =>
    rw [q] at this
    have e : i = c - 97 := by simpa using this
    simp only [e]
theorem add_w {a b : List Nat} (h : a.length + b.length ≤ 1000000) : binD .add (.str (wS a)) (.str (wS b)) = some (.v (.str (wS (a ++ b)))) := by
  simp only [binD, wS_len]
  rw [if_pos (sml h)]
  have : wS a ++ wS b = wS (a ++ b) := by
    show (⟨(wS a).cps ++ (wS b).cps⟩ : Str) = _
    simp [wS]
  rw [this]
theorem strD_w (c : Nat) : strD c = .str (wS [c]) := rfl
theorem slc_w {cs : List Nat} {lo hi : Option Int} (h : cs.length ≤ 1000000) : slcD (.str (wS cs)) lo hi = some (.v (.str (wS ((cs.drop (HT.sIx cs.length 0 lo)).take (HT.sIx cs.length cs.length hi - HT.sIx cs.length 0 lo))))) := by
  simp only [slcD, wS_len]
  rw [if_pos (sml h)]
  unfold cutS
  rw [wS_len, wS_tl]
  rfl
theorem slc_to {cs : List Nat} {a : Int} (h : cs.length ≤ 1000000) (h0 : 0 ≤ a) (h1 : a ≤ cs.length) : slcD (.str (wS cs)) none (some a) = some (.v (.str (wS (cs.take a.toNat)))) := by
  rw [slc_w h]
  have : HT.sIx cs.length cs.length (some a) = a.toNat := by
    show (if a < 0 then _ else min a.toNat cs.length) = _
    rw [if_neg (by omega)]; omega
  rw [this, HT.sIx_none]; simp
theorem slc_from {cs : List Nat} {a : Int} (h : cs.length ≤ 1000000) (h0 : 0 ≤ a) (h1 : a ≤ cs.length) : slcD (.str (wS cs)) (some a) none = some (.v (.str (wS (cs.drop a.toNat)))) := by
  rw [slc_w h]
  have : HT.sIx cs.length 0 (some a) = a.toNat := by
    show (if a < 0 then _ else min a.toNat cs.length) = _
    rw [if_neg (by omega)]; omega
  rw [this, HT.sIx_none, List.take_of_length_le (by rw [List.length_drop]; exact Nat.le_refl _)]
theorem emp_w : ("" : Str) = wS [] := by decide +kernel
theorem joinL_one : ∀ cs : List Nat, TL.joinL [] (cs.map fun c => [c]) = cs
  | [] => rfl
  | [c] => rfl
  | c :: d :: r => by
    have := joinL_one (d :: r)
    simp only [List.map_cons, TL.joinL, List.nil_append, List.singleton_append] at this ⊢
    rw [this]
theorem strsD_chars : ∀ cs : List Nat, strsD (cs.map strD) = some (cs.map fun c => wS [c])
  | [] => rfl
  | c :: r => by
    simp only [List.map_cons, strD, strsD]
    rw [show strsD (r.map strD) = _ from strsD_chars r]
    rfl
theorem join_w {cs : List Nat} (h : cs.length ≤ 1000) : methD .join (.str "") [.lst (cs.map strD)] = some (.v (.str (wS cs))) := by
  simp only [methD, itemsD, Option.bind_some, strsD_chars]
  have e0 : ("" : Str).length = 0 := by decide +kernel
  have sm : ∀ cs : List Nat, (cs.map ((·.length) ∘ fun c => wS [c])).sum = cs.length := fun cs => by
    induction cs with
    | nil => rfl
    | cons c r ih => rw [List.map_cons, List.sum_cons, ih]; show 1 + r.length = _; rw [List.length_cons]; omega
  rw [if_pos (by rw [e0, Nat.mul_zero, List.map_map, sm]; omega)]
  have : Txt.join "" (cs.map fun c => wS [c]) = wS cs := by
    rw [TL.join_eq]
    have e := TL.tl_join "" (cs.map fun c => wS [c])
    rw [List.map_map, show TL.tl ("" : Str) = [] from by rw [emp_w]; exact wS_tl []] at e
    have e2 : TL.joinL [] (cs.map (TL.tl ∘ fun c => wS [c])) = cs := joinL_one cs
    rw [e2] at e
    have e3 : ∀ s : Str, TL.tl s = cs → s = wS cs := fun s hs => by
      cases s with
      | mk a =>
        have : a.toList = cs := hs
        show (⟨a⟩ : Str) = ⟨cs.toArray⟩
        rw [← this]
    exact e3 _ e
  rw [this]
theorem in_strs {x : Str} {ws : List Str} : inD (.str x) (.lst (ws.map .str)) = some (decide (x ∈ ws)) := by
  have hf : (ws.map D.str).all isFlat = true := by rw [List.all_map]; exact List.all_eq_true.mpr fun _ _ => rfl
  simp only [inD, isFlat, hf, and_self, if_true, List.any_map]
  congr 1
  induction ws with
  | nil => simp
  | cons w r ih =>
    rw [List.any_cons, ih (by rw [List.map_cons, List.all_cons, Bool.and_eq_true] at hf; exact hf.2)]
    have : (((fun z => eqD z (.str x)) ∘ D.str) w) = decide (x = w) := by
      show PyData.eqv (.str w) (.str x) = _
      simp only [PyData.eqv]
      by_cases h : w = x
      · simp [h]
      · rw [decide_eq_false (fun e => h e.symm)]; simpa using h
    rw [this]
    by_cases h : x = w
    · simp [h]
    · simp [h]
/-! ### the next name -/
def nxt (c : Nat) : Nat := 97 + (c - 97 + 1) % 26
def nxW : List Nat → List Nat
  | [] => []
  | c :: r => nxt c :: r
def nxN : Nat → List Nat → List Nat
  | 0, cs => cs
  | n + 1, cs => nxN n (nxW cs)
theorem nxN_cons {c : Nat} {r : List Nat} (h0 : 97 ≤ c) (h1 : c ≤ 122) : ∀ n, nxN n (c :: r) = (97 + (c - 97 + n) % 26) :: r := by
  intro n
  induction n generalizing c with
  | zero =>
    show c :: r = _
    rw [Nat.mod_eq_of_lt (by omega), show 97 + (c - 97 + 0) = c by omega]
  | succ n ih =>
    show nxN n (nxt c :: r) = _
    rw [ih (by unfold nxt; omega) (by unfold nxt; have := Nat.mod_lt (c - 97 + 1) (show 26 > 0 by decide); omega)]
    unfold nxt
    congr 2
    rw [show 97 + (c - 97 + 1) % 26 - 97 + n = (c - 97 + 1) % 26 + n by omega, Nat.mod_add_mod, show c - 97 + 1 + n = c - 97 + (n + 1) by omega]
theorem nodup_le {α : Type} [DecidableEq α] : ∀ {xs L : List α}, xs.Nodup → (∀ x ∈ xs, x ∈ L) → xs.length ≤ L.length
  | [], _, _, _ => Nat.zero_le _
  | a :: r, L, hn, hs => by
    have ha := hs a List.mem_cons_self
    rw [List.nodup_cons] at hn
    have := nodup_le (xs := r) (L := L.erase a) hn.2 fun x hx => (List.mem_erase_of_ne (fun e => hn.1 (by rw [← e]; exact hx))).mpr (hs x (List.mem_cons_of_mem _ hx))
    rw [List.length_erase_of_mem ha] at this
    have hp : 0 < L.length := List.length_pos_of_mem ha
    rw [List.length_cons]; omega
/-- one of the next 26 names is free -/
theorem free_name {c : Nat} {r : List Nat} (h0 : 97 ≤ c) (h1 : c ≤ 122) {L : List Str} (hL : L.length < 26) : ∃ n, n < 26 ∧ wS (nxN n (c :: r)) ∉ L := by
  apply Classical.byContradiction
  intro hno
  have all : ∀ n, n < 26 → wS (nxN n (c :: r)) ∈ L := fun n hn => Classical.byContradiction fun h => hno ⟨n, hn, h⟩
  have nd : ((List.range 26).map fun n => wS (nxN n (c :: r))).Nodup := by
    rw [List.nodup_iff_pairwise_ne, List.pairwise_map]
    refine List.Pairwise.imp_of_mem (R := fun a b => a < b) (fun {a b} ha hb hab e => ?_) List.pairwise_lt_range
    rw [List.mem_range] at ha hb
    have := wS_inj e
    rw [nxN_cons h0 h1, nxN_cons h0 h1] at this
    simp only [List.cons.injEq, and_true] at this
    omega
  have := nodup_le nd fun x hx => by
    obtain ⟨n, hn, rfl⟩ := List.mem_map.mp hx
    exact all n (List.mem_range.mp hn)
  rw [List.length_map, List.length_range] at this
  omega
section
variable {μ : Sto} {Q : RV → Sto → Prop} {kk : RV → Prop} {kb : Bool → Prop} {cs a b : List Nat}
theorem ix_str {z : Str} {d : D} {i : D} (h : idxD (.str z) i = some d) : Ix (.str z) i μ Q ↔ Q (.v d) μ := by
  unfold Ix Wq idxM; simp only [h, Option.map_some]
theorem ix_abc {r : Int} (h0 : 0 ≤ r) (h1 : r < 26) : Ix (.str abc) (.int r) μ Q ↔ Q (.v (strD (97 + r.toNat))) μ := ix_str (abc_idx h0 h1)
theorem bn_w (h : a.length + b.length ≤ 1000000) : Bn .add (.str (wS a)) (.str (wS b)) kk ↔ kk (.v (.str (wS (a ++ b)))) := by unfold Bn; simp only [add_w h]
theorem sc_to {u : Int} (h : cs.length ≤ 1000000) (h0 : 0 ≤ u) (h1 : u ≤ cs.length) : Sc (.str (wS cs)) none (some u) kk ↔ kk (.v (.str (wS (cs.take u.toNat)))) := by unfold Sc; simp only [slc_to h h0 h1]
theorem sc_from {u : Int} (h : cs.length ≤ 1000000) (h0 : 0 ≤ u) (h1 : u ≤ cs.length) : Sc (.str (wS cs)) (some u) none kk ↔ kk (.v (.str (wS (cs.drop u.toNat)))) := by unfold Sc; simp only [slc_from h h0 h1]
theorem in_ws {x : Str} {ws : List Str} : In (.str x) (.lst (ws.map .str)) kb ↔ kb (decide (x ∈ ws)) := by unfold In; simp only [in_strs]
theorem in_wt {x : Str} {ws : List Str} : In (.str x) (.tup (ws.map .str)) kb ↔ kb (decide (x ∈ ws)) := by
  have : inD (.str x) (.tup (ws.map .str)) = some (decide (x ∈ ws)) := by
    have h := in_strs (x := x) (ws := ws)
    have hf : (ws.map D.str).all isFlat = true := by rw [List.all_map]; exact List.all_eq_true.mpr fun _ _ => rfl
    simp only [inD, isFlat, hf, and_self, if_true] at h ⊢
    exact h
  unfold In; simp only [this]
theorem mt_join (h : cs.length ≤ 1000) : Mt .join (.str "") [.lst (cs.map strD)] μ Q ↔ Q (.v (.str (wS cs))) μ := mt_str (join_w h)
theorem len_w (h : cs.length ≤ 1000000) : Bl .len [.str (wS cs)] μ Q ↔ Q (.v (.int cs.length)) μ := by rw [bl_len_s (by rw [wS_len]; exact h), wS_len]
end
end J
/-! S3: words, dealt. -/
namespace J
open PySem L2
def keptL : List Str := ["jars", "deed", "rest", "pay", "put", "then", "either", "take", "often", "use"]
/-- a name of the texts: of one to six small letters, none of the kept words -/
structure Nm (w : Str) : Prop where
  ex : ∃ cs, w = wS cs ∧ cs ≠ [] ∧ cs.length ≤ 6 ∧ Az cs
  no : w ∉ keptL
theorem Nm.len {w : Str} (h : Nm w) : w.length ≤ 6 := by
  obtain ⟨cs, rfl, _, h, _⟩ := h.ex
  rw [wS_len]; exact h
theorem strOk_w {cs : List Nat} (h : Az cs) : PyData.strOk (wS cs) = true := by
  unfold PyData.strOk wS
  rw [← Array.all_toList, List.all_eq_true]
  intro x hx
  have := h x (by simpa using hx)
  simp only [decide_eq_true_eq]; omega
theorem Nm.ok {w : Str} (h : Nm w) : PyData.strOk w = true := by
  obtain ⟨cs, rfl, _, _, h⟩ := h.ex
  exact strOk_w h
theorem all2_az {xs : List D} {os : List (Option D)} (h : All2 (fun _ o => ∃ c, o = some (strD c) ∧ 97 ≤ c ∧ c ≤ 122) xs os) : ∃ cs, os.filterMap id = cs.map strD ∧ cs.length = xs.length ∧ Az cs := by
  induction h with
  | nil => exact ⟨[], rfl, rfl, fun c hc => by cases hc⟩
  | cons h _ ih =>
    obtain ⟨c, rfl, h0, h1⟩ := h
    obtain ⟨cs, e1, e2, e3⟩ := ih
    exact ⟨c :: cs, by simp [e1], by simp [e2], fun z hz => (List.mem_cons.mp hz).elim (fun e => by rw [e]; exact ⟨h0, h1⟩) (e3 z)⟩
theorem kS {K c : Nat} (h : c < K) : ∃ k, K = k + 1 := ⟨K - 1, by omega⟩
theorem rngL_len {z : Int} : (rngL z).length = z.toNat := by unfold rngL; simp
section
variable {n K : Nat} {x : Dl n} {R : List Cell} {Q : RV → Sto → Prop} {E : XQ}

theorem letters_5 {a1 a3 a4 a5 a6 a7 a8 a9 a10 a11 : Slot} {z : Int} (z1 : z ≤ 1000) (q : ∀ (cs : List Nat) (x : Dl n), cs.length = z.toNat → Az cs → Q (.fr (cs.map strD)) (st x R)) :
    Cmp (callP U G (K + 1)) G [5] (.nm 5) none (.idx (.var 2) (.call 6 [.var 0, .lit (.int 26)])) (rngL z) [.val (.ref n), a1, .val (.str abc), a3, a4, a5, a6, a7, a8, a9, a10, a11] (st x R) Q := by
  refine cmp_inv (fun μ => ∃ x : Dl n, μ = st x R) (fun _ o => ∃ c, o = some (strD c) ∧ 97 ≤ c ∧ c ≤ 122) (by rw [rngL_len]; omega) ⟨x, rfl⟩ ?_ ?_
  · rintro d hd μ ⟨x, rfl⟩
    simp -dsimp only [ev]
    refine draw_ok (by decide) (by decide) fun r x r0 r1 => ?_
    simp -dsimp only [ev]
    rw [ix_abc r0 r1]
    simp -dsimp only [ev]
    exact ⟨⟨x, rfl⟩, _, rfl, by omega, by omega⟩
  · rintro os μ ⟨x, rfl⟩ h2
    obtain ⟨cs, e1, e2, e3⟩ := all2_az h2
    rw [e1]; exact q cs x (by rw [e2, rngL_len]) e3
theorem letters_11 {a1 a3 a4 a5 a6 a7 a8 a9 a10 a11 : Slot} {z : Int} (z1 : z ≤ 1000) (q : ∀ (cs : List Nat) (x : Dl n), cs.length = z.toNat → Az cs → Q (.fr (cs.map strD)) (st x R)) :
    Cmp (callP U G (K + 1)) G [11] (.nm 11) none (.idx (.var 2) (.call 6 [.var 0, .lit (.int 26)])) (rngL z) [.val (.ref n), a1, .val (.str abc), a3, a4, a5, a6, a7, a8, a9, a10, a11] (st x R) Q := by
  refine cmp_inv (fun μ => ∃ x : Dl n, μ = st x R) (fun _ o => ∃ c, o = some (strD c) ∧ 97 ≤ c ∧ c ≤ 122) (by rw [rngL_len]; omega) ⟨x, rfl⟩ ?_ ?_
  · rintro d hd μ ⟨x, rfl⟩
    simp -dsimp only [ev]
    refine draw_ok (by decide) (by decide) fun r x r0 r1 => ?_
    simp -dsimp only [ev]
    rw [ix_abc r0 r1]
    simp -dsimp only [ev]
    exact ⟨⟨x, rfl⟩, _, rfl, by omega, by omega⟩
  · rintro os μ ⟨x, rfl⟩ h2
    obtain ⟨cs, e1, e2, e3⟩ := all2_az h2
    rw [e1]; exact q cs x (by rw [e2, rngL_len]) e3
/-- the next free name -/
theorem words_whl {C : Calls} {μ : Sto} {a0 a1 a4 a5 a6 a7 a8 a11 : Slot} {ws : List Str} {cs : List Nat} {S : Flo → Sto → Prop} (hw : ws.length ≤ 15) (hc : cs ≠ []) (hl : cs.length ≤ 6) (az : Az cs)
    (q : ∀ cs', cs' ≠ [] → cs'.length ≤ 6 → Az cs' → wS cs' ∉ keptL → wS cs' ∉ ws → S (.nx [a0, a1, .val (.str abc), .val (.lst (keptL.map .str)), a4, a5, a6, a7, a8, .own (ws.map .str), .val (.str (wS cs')), a11]) μ) :
    Whl C G (.or (.cmp .isin (.var 10) (.var 3)) (.cmp .isin (.var 10) (.var 9))) [.asg (.nm 10) (.bin .add (.idx (.var 2) (.bin .mod (.bin .add (.meth .sindex (.var 2) [(.idx (.var 10) (.lit (.int 0)))]) (.lit (.int 1))) (.lit (.int 26)))) (.slc (.var 10) (some (.lit (.int 1))) none))] [a0, a1, .val (.str abc), .val (.lst (keptL.map .str)), a4, a5, a6, a7, a8, .own (ws.map .str), .val (.str (wS cs)), a11] μ S := by
  obtain ⟨c, r, rfl⟩ : ∃ c r, cs = c :: r := by
    cases cs with
    | nil => exact absurd rfl hc
    | cons c r => exact ⟨c, r, rfl⟩
  obtain ⟨c0, c1⟩ := az c List.mem_cons_self
  obtain ⟨N, hN, hfree⟩ := free_name (r := r) c0 c1 (L := keptL ++ ws) (by simp [keptL]; omega)
  refine whl_inv (fun j ρ μ' => μ' = μ ∧ ∃ c, 97 ≤ c ∧ c ≤ 122 ∧ ρ = [a0, a1, .val (.str abc), .val (.lst (keptL.map .str)), a4, a5, a6, a7, a8, .own (ws.map .str), .val (.str (wS (c :: r))), a11] ∧ wS (nxN j (c :: r)) ∉ keptL ++ ws) (n := N) (by omega) ⟨rfl, c, c0, c1, rfl, hfree⟩ ?_
  rintro j ρ μ' ⟨rfl, c, c0, c1, rfl, hf⟩
  have az' : Az (c :: r) := fun z hz => (List.mem_cons.mp hz).elim (fun e => by rw [e]; exact ⟨c0, c1⟩) fun hz => az z (List.mem_cons_of_mem _ hz)
  have hl' : (c :: r).length ≤ 6 := hl
  have step : (wS (c :: r) ∈ keptL ∨ wS (c :: r) ∈ ws) → Rs C G [.asg (.nm 10) (.bin .add (.idx (.var 2) (.bin .mod (.bin .add (.meth .sindex (.var 2) [(.idx (.var 10) (.lit (.int 0)))]) (.lit (.int 1))) (.lit (.int 26)))) (.slc (.var 10) (some (.lit (.int 1))) none))] [a0, a1, .val (.str abc), .val (.lst (keptL.map .str)), a4, a5, a6, a7, a8, .own (ws.map .str), .val (.str (wS (c :: r))), a11] μ' (fun fl μ2 => match fl with
        | .nx ρ1 => ∃ m, m < j ∧ μ2 = μ' ∧ ∃ c, 97 ≤ c ∧ c ≤ 122 ∧ ρ1 = [a0, a1, .val (.str abc), .val (.lst (keptL.map .str)), a4, a5, a6, a7, a8, .own (ws.map .str), .val (.str (wS (c :: r))), a11] ∧ wS (nxN m (c :: r)) ∉ keptL ++ ws
        | .ct ρ1 => ∃ m, m < j ∧ μ2 = μ' ∧ ∃ c, 97 ≤ c ∧ c ≤ 122 ∧ ρ1 = [a0, a1, .val (.str abc), .val (.lst (keptL.map .str)), a4, a5, a6, a7, a8, .own (ws.map .str), .val (.str (wS (c :: r))), a11] ∧ wS (nxN m (c :: r)) ∉ keptL ++ ws
        | y => S y μ2) := by
    intro hin
    have hj : j ≠ 0 := by
      intro e
      subst e
      exact hf (List.mem_append.mpr hin)
    obtain ⟨j', rfl⟩ : ∃ j', j = j' + 1 := ⟨j - 1, by omega⟩
    have e26 : ((c - 97 : Nat) : Int) + 1 = ((c - 97 + 1 : Nat) : Int) := by omega
    have em : (((c - 97 : Nat) : Int) + 1) % 26 = (((c - 97 + 1) % 26 : Nat) : Int) := by rw [e26]; rfl
    have lt := Nat.mod_lt (c - 97 + 1) (show 26 > 0 by decide)
    have i0 : idxD (.str (wS (c :: r))) (.int 0) = some (strD c) := by
      simp only [idxD, wS_len]
      rw [if_pos (sml (by simp at hl'; simp; omega)), wS_tl]
      unfold atI ixN
      rw [if_pos (by decide), if_pos (by simp only [List.length_cons]; omega)]
      rfl
    simp -dsimp only [ev, ix_str i0, mt_str (abc_ix c0 c1)]
    rw [bn_mod (by decide)]
    simp -dsimp only [ev]
    rw [ix_abc (by omega) (by omega)]
    simp -dsimp only [ev]
    rw [sc_from (by omega) (by decide) (by simp only [List.length_cons]; omega)]
    simp -dsimp only [ev, strD_w]
    rw [bn_w (by simp at hl' ⊢; omega)]
    simp -dsimp only [ev]
    refine ⟨j', by omega, trivial, nxt c, by unfold nxt; omega, by unfold nxt; omega, ?_, hf⟩
    have : (((c - 97 : Nat) : Int) + 1) % 26 = ((nxt c - 97 : Nat) : Int) := by rw [em]; unfold nxt; omega
    rw [em, Int.toNat_natCast]; rfl
  simp -dsimp only [ev, in_ws]
  refine br_d (fun h1 => step (.inl h1)) fun h1 => ?_
  simp -dsimp only [ev, in_ws]
  refine br_d (fun h2 => step (.inr h2)) fun h2 => ?_
  exact q (c :: r) (by simp) hl' az' h1 h2
def wEnv (n : Nat) (many : Int) (cs : List Nat) (a5 : Slot) (at' turn : Int) (near : Bool) (ws : List Str) (a10 a11 : Slot) : Env :=
  [.val (.ref n), .val (.int many), .val (.str abc), .val (.lst (keptL.map .str)), .val (.str (wS cs)), a5, .val (.int at'), .val (.int turn), .val (.bl near), .own (ws.map .str), a10, a11]
theorem words_ok {many : Int} (hK : 1 < K) (h0 : 0 ≤ many) (h1 : many ≤ 16) (q : ∀ (ws : List Str) (x : Dl n), ws.length = many.toNat → ws.Nodup → (∀ w ∈ ws, Nm w) → Q (.fr (ws.map .str)) (st x R)) : Wp (callP U G K 7 [.ref n, .int many]) (st x R) Q E := by
  obtain ⟨K, rfl⟩ : ∃ k, K = k + 2 := ⟨K - 2, by omega⟩
  rw [c_l_words]; unfold b_l_words
  simp -dsimp only [ev]
  refine draw_ok (by decide) (by decide) fun r x r0 r1 => ?_
  simp -dsimp only [ev]
  refine ⟨by omega, letters_5 (by omega) fun cs x l1 az => ?_⟩
  simp -dsimp only [ev]
  rw [mt_join (by omega)]
  simp -dsimp only [ev, len_w (show cs.length ≤ 1000000 by omega)]
  refine draw_ok (by omega) (by omega) fun at' x at0 at1 => ?_
  simp -dsimp only [ev]
  refine draw_ok (by decide) (by decide) fun turn x tu0 tu1 => ?_
  simp -dsimp only [ev]
  refine draw_ok (by decide) (by decide) fun r2 x _ _ => ?_
  simp -dsimp only [ev]
  generalize decide (r2 = 0) = near
  refine ⟨⟨by omega, by omega⟩, ?_⟩
  refine each_inv (fun ds ρ μ => ∃ (ws : List Str) (a5 a10 a11 : Slot) (x : Dl n), ws.length + ds.length = many.toNat ∧ (∀ d ∈ ds, ∃ i, d = D.int i) ∧ ρ = wEnv n many cs a5 at' turn near ws a10 a11 ∧ ws.Nodup ∧ (∀ w ∈ ws, Nm w) ∧ μ = st x R) ?_ ?_ ⟨[], .none, .none, .none, x, by rw [rngL_len]; simp, fun d hd => by
      unfold rngL at hd
      obtain ⟨i, _, rfl⟩ := List.mem_map.mp hd
      exact ⟨_, rfl⟩, rfl, List.nodup_nil, (fun w hw => absurd hw List.not_mem_nil), rfl⟩
  · rintro d ds ρ μ ⟨ws, a5, a10, a11, x, hl, hi, rfl, nd, nm, rfl⟩
    obtain ⟨i, rfl⟩ := hi d List.mem_cons_self
    simp only [List.length_cons] at hl
    have hi' : ∀ d ∈ ds, ∃ i, d = D.int i := fun d hd => hi d (List.mem_cons_of_mem _ hd)
    have m0 := Int.emod_nonneg (turn + i) (show (26 : Int) ≠ 0 by decide)
    have m1 := Int.emod_lt_of_pos (turn + i) (show (0 : Int) < 26 by decide)
    have azn : Az [97 + ((turn + i) % 26).toNat] := fun z hz => by rw [List.mem_singleton.mp hz]; omega
    unfold wEnv
    simp -dsimp only [ev]
    rw [sc_to (by omega) at0 (by omega)]
    simp -dsimp only [ev]
    rw [bn_mod (by decide)]
    simp -dsimp only [ev]
    rw [ix_abc m0 m1]
    simp -dsimp only [ev, strD_w]
    rw [bn_w (by simp only [List.length_take, List.length_singleton]; omega)]
    simp -dsimp only [ev]
    rw [sc_from (by omega) at0 (by omega)]
    simp -dsimp only [ev]
    rw [bn_w (by simp only [List.length_take, List.length_drop, List.length_append, List.length_singleton]; omega)]
    generalize hc' : cs.take at'.toNat ++ [97 + ((turn + i) % 26).toNat] ++ cs.drop at'.toNat = cs'
    have l' : cs'.length = cs.length + 1 := by rw [← hc']; simp only [List.length_append, List.length_take, List.length_drop, List.length_singleton]; omega
    have az' : Az cs' := by
      rw [← hc']
      intro z hz
      rcases List.mem_append.mp hz with hz | hz
      · rcases List.mem_append.mp hz with hz | hz
        · exact az z (List.mem_of_mem_take hz)
        · exact azn z hz
      · exact az z (List.mem_of_mem_drop hz)
    have fin : ∀ (c2 : List Nat) (a11 : Slot) (x : Dl n), c2 ≠ [] → c2.length ≤ 6 → Az c2 → wS c2 ∉ keptL → wS c2 ∉ ws →
        ∃ (ws' : List Str) (a5' a10' a11' : Slot) (x' : Dl n), ws'.length + ds.length = many.toNat ∧ (∀ d ∈ ds, ∃ i, d = D.int i) ∧ [.val (.ref n), .val (.int many), .val (.str abc), .val (.lst (keptL.map .str)), .val (.str (wS cs)), .val (.int i), .val (.int at'), .val (.int turn), .val (.bl near), .own (ws.map .str ++ [D.str (wS c2)]), .val (.str (wS c2)), a11] = wEnv n many cs a5' at' turn near ws' a10' a11' ∧ ws'.Nodup ∧ (∀ w ∈ ws', Nm w) ∧ st x R = st x' R := fun c2 a11 x e1 e2 e3 e4 e5 =>
      ⟨ws ++ [wS c2], _, _, _, x, by simp only [List.length_append, List.length_singleton]; omega, hi', by unfold wEnv; rw [List.map_append]; rfl, by
        rw [List.nodup_append]
        exact ⟨nd, by simp, fun a ha b hb => by rw [List.mem_singleton.mp hb]; rintro rfl; exact e5 ha⟩, fun z hz => (List.mem_append.mp hz).elim (nm z) fun hz => by rw [List.mem_singleton.mp hz]; exact ⟨⟨c2, rfl, e1, e2, e3⟩, e4⟩, rfl⟩
    simp -dsimp only [ev]
    cases near with
    | true =>
      simp -dsimp only [ev, Bool.not_true]
      refine words_whl (by omega) (by intro e; rw [e] at l'; simp at l') (by omega) az' fun c2 e1 e2 e3 e4 e5 => ?_
      simp -dsimp only [ev]
      rw [xm_bo1 (by simp only [List.length_map]; omega)]
      simp -dsimp only [ev]
      exact fin c2 _ x e1 e2 e3 e4 e5
    | false =>
      simp -dsimp only [ev, Bool.not_false]
      refine draw_ok (by decide) (by decide) fun r3 x r30 r31 => ?_
      simp -dsimp only [ev]
      refine ⟨by omega, letters_11 (by omega) fun c1 x l1 az1 => ?_⟩
      simp -dsimp only [ev]
      rw [mt_join (by omega)]
      simp -dsimp only [ev]
      refine words_whl (by omega) (by intro e; rw [e] at l1; simp at l1; omega) (by omega) az1 fun c2 e1 e2 e3 e4 e5 => ?_
      simp -dsimp only [ev]
      rw [xm_bo1 (by simp only [List.length_map]; omega)]
      simp -dsimp only [ev]
      exact fin c2 _ x e1 e2 e3 e4 e5
  · rintro ρ μ ⟨ws, a5, a10, a11, x, hl, hi, rfl, nd, nm, rfl⟩
    unfold wEnv
    simp -dsimp only [ev]
    exact q ws x (by simpa using hl) nd nm
end
end J
/-! S4: fractions in lowest terms; bodies dealt. -/
namespace J
open PySem L2
def gcdI (t b : Int) : Int := (Nat.gcd t.natAbs b.natAbs : Nat)
theorem gcdI_pos {t b : Int} (h : b ≠ 0) : 0 < gcdI t b := by
  unfold gcdI
  have : 0 < Nat.gcd t.natAbs b.natAbs := Nat.gcd_pos_of_pos_right _ (by omega)
  omega
theorem gcdI_le {t b : Int} (h : b ≠ 0) : gcdI t b ≤ b.natAbs := by
  unfold gcdI
  have : Nat.gcd t.natAbs b.natAbs ≤ b.natAbs := Nat.gcd_le_right _ (by omega)
  omega
theorem div_natAbs {a g : Int} (h : 0 < g) : (a / g).natAbs ≤ a.natAbs := Int.natAbs_ediv_le_natAbs a g
theorem gcdI_neg {t b : Int} : gcdI (0 - t) (0 - b) = gcdI t b := by
  unfold gcdI
  rw [show (0 - t).natAbs = t.natAbs by omega, show (0 - b).natAbs = b.natAbs by omega]
theorem gcdI_abs {t b : Int} : gcdI (if 0 - t > t then 0 - t else t) b = gcdI t b := by
  unfold gcdI
  congr 2
  split <;> omega
theorem gcdI_abs' {t b : Int} : gcdI (if t < 0 then -t else t) b = gcdI t b := by
  unfold gcdI
  congr 2
  split <;> omega
theorem gcdI_low {t b : Int} (hb : 0 < b) : gcdI (t / gcdI t b) (b / gcdI t b) = 1 := by
  have h := gcdI_pos (t := t) (b := b) (by omega)
  unfold gcdI at h ⊢
  have h1 : Int.gcd t b = Nat.gcd t.natAbs b.natAbs := rfl
  rw [← h1] at h ⊢
  have h2 := Int.gcd_ediv_gcd_ediv_gcd (i := t) (j := b) (by omega)
  show ((Int.gcd (t / (Int.gcd t b : Int)) (b / (Int.gcd t b : Int)) : Nat) : Int) = 1
  rw [h2]; rfl
/-- the greatest common divisor, turn by turn: y in the last but one slot -/
theorem gcd_step {x y : Int} (h1 : 0 ≤ x) (h2 : 0 < y) : gcdI y (x % y) = gcdI x y := by
  unfold gcdI
  have e : (x % y).natAbs = x.natAbs % y.natAbs := by
    obtain ⟨m, rfl⟩ := Int.eq_ofNat_of_zero_le h1
    obtain ⟨n, rfl⟩ := Int.eq_ofNat_of_zero_le (show 0 ≤ y by omega)
    rfl
  rw [e, Nat.gcd_comm, ← Nat.gcd_rec, Nat.gcd_comm]
theorem gcd_zero {x : Int} (h : 0 ≤ x) : gcdI x 0 = x := by
  unfold gcdI
  rw [show (0 : Int).natAbs = 0 from rfl, Nat.gcd_zero_right]
  omega
theorem euclid_whl {C : Calls} {g : GT} {μ : Sto} {a b : Slot} {x y : Int} {S : Flo → Sto → Prop} (hx : 0 ≤ x) (hy : 0 ≤ y) (hyf : y < 2 ^ 190) (h : S (.nx [a, b, .val (.int (gcdI x y)), .val (.int 0)]) μ) :
    Whl C g (.cmp .gt (.var 3) (.lit (.int 0))) [.par2 2 3 (.var 3) (.bin .mod (.var 2) (.var 3))] [a, b, .val (.int x), .val (.int y)] μ S := by
  refine whl_inv (fun n ρ μ' => μ' = μ ∧ ∃ x' y' : Int, ρ = [a, b, .val (.int x'), .val (.int y')] ∧ 0 ≤ x' ∧ 0 ≤ y' ∧ n = y'.toNat ∧ gcdI x' y' = gcdI x y) (n := y.toNat) (by omega) ⟨rfl, x, y, rfl, hx, hy, rfl, rfl⟩ ?_
  rintro n ρ μ' ⟨rfl, x', y', rfl, h1, h2, rfl, h3⟩
  simp -dsimp only [ev]
  refine br_d (fun hp => ?_) fun hp => ?_
  · simp -dsimp only [ev]
    rw [bn_mod hp]
    simp -dsimp only [ev]
    have := Int.emod_lt_of_pos x' hp
    have := Int.emod_nonneg x' (show y' ≠ 0 by omega)
    exact ⟨(x' % y').toNat, by omega, trivial, y', x' % y', rfl, h2, by omega, rfl, by rw [gcd_step h1 hp]; exact h3⟩
  · have e : y' = 0 := by omega
    subst e
    rw [gcd_zero h1] at h3
    rw [h3]; exact h
/-- a cost as the laws make them -/
structure Kd (t b : Int) : Prop where
  t0 : 0 ≤ t
  t1 : t ≤ 1000
  b0 : 1 ≤ b
  b1 : b ≤ 9
  co : gcdI t b = 1
def Nd (n : Int) : Prop := 1 ≤ n ∧ n ≤ 9
theorem Kd.low {t b : Int} (t0 : 0 ≤ t) (t1 : t ≤ 1000) (b0 : 1 ≤ b) (b1 : b ≤ 9) : Kd (t / gcdI t b) (b / gcdI t b) := by
  have h := gcdI_pos (t := t) (b := b) (by omega)
  have h1 := gcdI_le (t := t) (b := b) (by omega)
  have h2 := div_natAbs (a := t) h
  have h3 := div_natAbs (a := b) h
  have h4 : 0 ≤ t / gcdI t b := Int.ediv_nonneg t0 (by omega)
  have h5 : 1 ≤ b / gcdI t b := (Int.le_ediv_iff_mul_le h).mpr (by omega)
  exact ⟨h4, by omega, h5, by omega, gcdI_low (by omega)⟩
inductive B where
  | rest
  | pay (t b : Int)
  | put (j : Str) (n : Int)
  | use (d : Str)
  | take (j : Str) (n : Int) (a b : B)
  | thn (a b : B)
  | eith (a b : B)
  | oft (a : B)
def B.d : B → D
  | .rest => .tup [.str "rest"]
  | .pay t b => .tup [.str "pay", .tup [.int t, .int b]]
  | .put j n => .tup [.str "put", .str j, .int n]
  | .use d => .tup [.str "use", .str d]
  | .take j n a b => .tup [.str "take", .str j, .int n, a.d, b.d]
  | .thn a b => .tup [.str "then", a.d, b.d]
  | .eith a b => .tup [.str "either", a.d, b.d]
  | .oft a => .tup [.str "often", a.d]
def B.dp : B → Nat
  | .take _ _ a b => max a.dp b.dp + 1
  | .thn a b => max a.dp b.dp + 1
  | .eith a b => max a.dp b.dp + 1
  | .oft a => a.dp + 1
  | _ => 0
/-- how many parts -/
def B.pt : B → Nat
  | .take _ _ a b => 1 + a.pt + b.pt
  | .thn a b => 1 + a.pt + b.pt
  | .eith a b => 1 + a.pt + b.pt
  | .oft a => 1 + a.pt
  | _ => 1
/-- all parts: what jars, numbers of things, uses, costs there may be -/
def B.All (J U : Str → Prop) (N : Int → Prop) (K : Int → Int → Prop) : B → Prop
  | .rest => True
  | .pay t b => K t b
  | .put j n => J j ∧ N n
  | .use d => U d
  | .take j n a b => J j ∧ N n ∧ a.All J U N K ∧ b.All J U N K
  | .thn a b => a.All J U N K ∧ b.All J U N K
  | .eith a b => a.All J U N K ∧ b.All J U N K
  | .oft a => a.All J U N K
theorem B.All.mono {J U J' U' : Str → Prop} {N N' : Int → Prop} {K K' : Int → Int → Prop} (hJ : ∀ j, J j → J' j) (hU : ∀ j, U j → U' j) (hN : ∀ j, N j → N' j) (hK : ∀ t b, K t b → K' t b) {b : B} (h : b.All J U N K) : b.All J' U' N' K' := by
  induction b with
  | rest => trivial
  | pay t b => exact hK _ _ h
  | put j n => exact ⟨hJ _ h.1, hN _ h.2⟩
  | use d => exact hU _ h
  | take j n a b i1 i2 => exact ⟨hJ _ h.1, hN _ h.2.1, i1 h.2.2.1, i2 h.2.2.2⟩
  | thn a b i1 i2 => exact ⟨i1 h.1, i2 h.2⟩
  | eith a b i1 i2 => exact ⟨i1 h.1, i2 h.2⟩
  | oft a i1 => exact i1 h
section
variable {n K : Nat} {x : Dl n} {R : List Cell} {Q : RV → Sto → Prop} {E : XQ} {μ : Sto}
theorem low_ok {t b : Int} (hK : 0 < K) (hb : 0 < b) (hb1 : b < 2 ^ 190) : Wp (callP U G K 8 [.int t, .int b]) μ Q E ↔ Q (.v (.tup [.int (t / gcdI t b), .int (b / gcdI t b)])) μ := by
  refine pure_at (pure_of fun μ Q q => ?_)
  obtain ⟨K, rfl⟩ := kS hK
  rw [c_l_low]; unfold b_l_low
  simp -dsimp only [ev]
  refine euclid_whl (by split <;> omega) (by omega) hb1 ?_
  rw [gcdI_abs]
  have g1 := gcdI_pos (t := t) (b := b) (by omega)
  have g2 := gcdI_le (t := t) (b := b) (by omega)
  have lg : (gcdI t b).natAbs.log2 < 9000 := by
    have := log_lt (a := gcdI t b) (k := 200) (by omega) (by decide); omega
  simp -dsimp only [ev]
  rw [bn_fdiv g1 lg]
  simp -dsimp only [ev]
  rw [bn_fdiv g1 lg]
  simp -dsimp only [ev]
  exact q
theorem cost_ok (hK : 1 < K) (q : ∀ t b (x : Dl n), Kd t b → Q (.v (.tup [.int t, .int b])) (st x R)) : Wp (callP U G K 9 [.ref n]) (st x R) Q E := by
  obtain ⟨K, rfl⟩ : ∃ k, K = k + 2 := ⟨K - 2, by omega⟩
  rw [c_l_cost]; unfold b_l_cost
  simp -dsimp only [ev]
  refine draw_ok (by decide) (by decide) fun r x r0 r1 => ?_
  simp -dsimp only [ev]
  refine br_d (fun h0 => ?_) fun h0 => ?_
  · simp -dsimp only [ev]
    exact q 0 1 x ⟨by decide, by decide, by decide, by decide, by decide⟩
  simp -dsimp only [ev]
  refine br_d (fun h1 => ?_) fun h1 => ?_
  · simp -dsimp only [ev]
    refine draw_ok (by decide) (by decide) fun r2 x r20 r21 => ?_
    simp -dsimp only [ev]
    exact q _ _ _ ⟨by omega, by omega, by decide, by decide, by unfold gcdI; simp⟩
  simp -dsimp only [ev]
  refine draw_ok (by decide) (by decide) fun r2 x r20 r21 => ?_
  simp -dsimp only [ev]
  refine draw_ok (by decide) (by decide) fun r3 x r30 r31 => ?_
  simp -dsimp only [ev]
  rw [low_ok (by omega) (by omega) (by omega)]
  simp -dsimp only [ev]
  exact q _ _ _ (Kd.low (by omega) (by omega) (by omega) (by omega))
/-- a row of names, a list or a tuple -/
def SeqS (d : D) (js : List Str) : Prop := d = .tup (js.map .str) ∨ d = .lst (js.map .str)
theorem SeqS.len {d : D} {js : List Str} (h : SeqS d js) : Bl .len [d] μ Q ↔ Q (.v (.int js.length)) μ := by
  rcases h with rfl | rfl
  · rw [bl_len_t, List.length_map]
  · rw [bl_len_l, List.length_map]
theorem SeqS.at' {d : D} {js : List Str} (h : SeqS d js) {i : Int} (h0 : 0 ≤ i) (h1 : i < js.length) (q : ∀ j ∈ js, Q (.v (.str j)) μ) : Ix d (.int i) μ Q := by
  have key : ∀ d ∈ js.map D.str, (js.map D.str)[i.toNat]? = some d → Q (.v d) μ := fun d hd _ => by
    obtain ⟨j, hj, rfl⟩ := List.mem_map.mp hd
    exact q j hj
  rcases h with rfl | rfl
  · rw [ix_t]; exact ata_ok h0 (by rw [List.length_map]; exact h1) key
  · rw [ix_l]; exact ata_ok h0 (by rw [List.length_map]; exact h1) key
/-- a part without parts, dealt -/
theorem leaf_ok {jd : D} {js : List Str} (hK : 2 < K) (hj : SeqS jd js) (hl : js.length < 2 ^ 60) (q : ∀ (b : B) (x : Dl n), b.dp = 0 → b.pt = 1 → b.All (· ∈ js) (fun _ => False) Nd Kd → Q (.v b.d) (st x R)) : Wp (callP U G K 10 [.ref n, jd]) (st x R) Q E := by
  obtain ⟨K, rfl⟩ : ∃ k, K = k + 2 := ⟨K - 2, by omega⟩
  rw [c_l_leaf]; unfold b_l_leaf
  simp -dsimp only [ev]
  refine draw_ok (by decide) (by decide) fun r x r0 r1 => ?_
  simp -dsimp only [ev]
  refine br_d (fun h0 => ?_) fun h0 => ?_
  · simp -dsimp only [ev]
    exact q .rest x rfl rfl trivial
  simp -dsimp only [ev, hj.len]
  have pay : ∀ x : Dl n, Wp (callP U G (K + 1) 9 [.ref n]) (st x R) (fun y μ1 => Nv y fun d => Q (.v (.tup [.str "pay", d])) μ1) E := fun x => by
    refine cost_ok (by omega) fun t b x hk => ?_
    simp -dsimp only [ev]
    exact q (.pay t b) x rfl rfl hk
  refine br_d (fun h1 => ?_) fun h1 => ?_
  · simp -dsimp only [ev]
    refine cost_ok (by omega) fun t b x hk => ?_
    simp -dsimp only [ev]
    exact q (.pay t b) x rfl rfl hk
  simp -dsimp only [ev, hj.len]
  refine br_d (fun h2 => ?_) fun h2 => ?_
  · simp -dsimp only [ev]
    refine cost_ok (by omega) fun t b x hk => ?_
    simp -dsimp only [ev]
    exact q (.pay t b) x rfl rfl hk
  simp -dsimp only [ev]
  refine draw_ok (by decide) (by decide) fun r2 x r20 r21 => ?_
  simp -dsimp only [ev]
  refine draw_ok (by decide) (by decide) fun r3 x r30 r31 => ?_
  simp -dsimp only [ev]
  refine ata_ok r30 r31 fun nd hn _ => ?_
  have hN : ∃ i, nd = .int i ∧ Nd i := by
    simp only [List.mem_cons, List.not_mem_nil, or_false] at hn
    rcases hn with rfl | rfl | rfl
    · exact ⟨_, rfl, by decide, by decide⟩
    · exact ⟨_, rfl, by decide, by decide⟩
    · exact ⟨_, rfl, by omega, by omega⟩
  obtain ⟨i, rfl, hN⟩ := hN
  simp -dsimp only [ev, hj.len]
  refine draw_ok (by omega) (by omega) fun r4 x r40 r41 => ?_
  refine hj.at' r40 r41 fun j hjj => ?_
  simp -dsimp only [ev]
  exact q (.put j i) x rfl rfl ⟨hjj, hN⟩
theorem ix_at {R : List Cell} {l j : Nat} {z : Int} (h : l = n + 1 + j) (hj : R[j]? = some (.lst [.int z])) : Ix (.ref l) (.int 0) (st x R) Q ↔ Q (.v (.int z)) (st x R) := by
  rw [ix_ref (ds := [.int z]) (by rw [st_get h]; exact hj), at_0]
theorem pm_at {R : List Cell} {l j : Nat} {z w : Int} {ρ : Env} {S : Flo → Sto → Prop} (h : l = n + 1 + j) (hj : R[j]? = some (.lst [.int z])) : Pm ρ (.v (.ref l)) (.int 0) (.int w) (st x R) S ↔ S (.nx ρ) (st x (R.set j (.lst [.int w]))) := by
  rw [pm_ref (ds := [.int z]) (xs' := [.int w]) (by rw [st_get h]; exact hj) rfl, st_set h]
theorem set_get {R : List Cell} {j : Nat} {c c' : Cell} (h : R[j]? = some c) : (R.set j c')[j]? = some c' := by
  have : j < R.length := by
    by_cases h1 : j < R.length
    · exact h1
    · rw [List.getElem?_eq_none (by omega)] at h; cases h
  simp [this]
/-- a body, dealt: z the parts that are left -/
theorem body_ok {jd : D} {js : List Str} {l j : Nat} (hj : SeqS jd js) (hjl : js.length < 2 ^ 60) (h : l = n + 1 + j) :
    ∀ (dn : Nat) (K : Nat) (z : Int) (x : Dl n) (R : List Cell) (Q : RV → Sto → Prop) (E : XQ), dn + 3 < K → R[j]? = some (.lst [.int z]) → 0 ≤ z →
      (∀ (b : B) (x : Dl n) (w : Int), b.dp ≤ dn → 0 ≤ w → (b.pt : Int) = 1 + (z - w) → b.All (· ∈ js) (fun _ => False) Nd Kd → Q (.v b.d) (st x (R.set j (.lst [.int w])))) →
      Wp (callP U G K 11 [.ref n, jd, .ref l, .int dn]) (st x R) Q E := by
  have leaf : ∀ {K : Nat} {z : Int} {x : Dl n} {R : List Cell} {Q : RV → Sto → Prop} {E : XQ}, 2 < K → R[j]? = some (.lst [.int z]) → (∀ (b : B) (x : Dl n), b.dp = 0 → (b.pt : Int) = 1 → b.All (· ∈ js) (fun _ => False) Nd Kd → Q (.v b.d) (st x (R.set j (.lst [.int z])))) → Wp (callP U G K 10 [.ref n, jd]) (st x R) Q E := fun {K z x R Q E} hK hz q => by
    have e : R.set j (.lst [.int z]) = R := by
      apply List.ext_getElem?
      intro i
      by_cases hi : i = j
      · subst hi; rw [set_get hz, hz]
      · rw [List.getElem?_set_ne (Ne.symm hi)]
    rw [e] at q
    exact leaf_ok hK hj hjl fun b x h1 h2 h3 => q b x h1 (by omega) h3
  intro dn
  induction dn with
  | zero =>
    intro K z x R Q E hK hz z0 q
    obtain ⟨K, rfl⟩ : ∃ k, K = k + 2 := ⟨K - 2, by omega⟩
    rw [c_l_body]; unfold b_l_body
    simp -dsimp only [ev]
    refine draw_ok (by decide) (by decide) fun r x r0 r1 => ?_
    simp -dsimp only [ev]
    rw [show decide (((0 : Nat) : Int) = 0) = true from rfl]
    simp -dsimp only [ev]
    refine leaf (by omega) hz fun b x h1 h2 h3 => ?_
    simp -dsimp only [ev]
    exact q b x z (by omega) z0 (by omega) h3
  | succ dn ih =>
    intro K z x R Q E hK hz z0 q
    obtain ⟨K, rfl⟩ : ∃ k, K = k + 2 := ⟨K - 2, by omega⟩
    rw [c_l_body]; unfold b_l_body
    have e2 : ((dn + 1 : Nat) : Int) - 1 = (dn : Int) := by omega
    have e3 : decide (((dn + 1 : Nat) : Int) = 0) = false := by rw [decide_eq_false]; omega
    simp -dsimp only [ev]
    refine draw_ok (by decide) (by decide) fun r x r0 r1 => ?_
    simp -dsimp only [ev, e3]
    simp -dsimp only [ev, ix_at h hz]
    refine br_d (fun h0 => ?_) fun h0 => ?_
    · simp -dsimp only [ev]
      refine leaf (by omega) hz fun b x h1 h2 h3 => ?_
      simp -dsimp only [ev]
      exact q b x z (by omega) z0 (by omega) h3
    simp -dsimp only [ev]
    refine br_d (fun h1 => ?_) fun h1 => ?_
    · simp -dsimp only [ev]
      refine leaf (by omega) hz fun b x h1 h2 h3 => ?_
      simp -dsimp only [ev]
      exact q b x z (by omega) z0 (by omega) h3
    simp -dsimp only [ev]
    refine br_d (fun h2 => ?_) fun h2 => ?_
    · simp -dsimp only [ev, ix_at h hz, pm_at h hz, e2]
      refine ih (K + 1) _ _ _ _ _ (by omega) (set_get hz) (by omega) fun b x w b1 w0 b2 b3 => ?_
      rw [List.set_set]
      simp -dsimp only [ev]
      exact q (.oft b) x w (by simp only [B.dp]; omega) w0 (by simp only [B.pt]; omega) b3
    simp -dsimp only [ev, ix_at h hz, pm_at h hz, e2]
    refine ih (K + 1) _ _ _ _ _ (by omega) (set_get hz) (by omega) fun b x w b1 w0 b2 b3 => ?_
    rw [List.set_set]
    simp -dsimp only [ev, e2]
    refine ih (K + 1) _ _ _ _ _ (by omega) (set_get hz) w0 fun b' x w' b1' w0' b2' b3' => ?_
    rw [List.set_set]
    simp -dsimp only [ev]
    refine br_d (fun h3 => ?_) fun h3 => ?_
    · simp -dsimp only [ev]
      exact q (.thn b b') x w' (by simp only [B.dp]; omega) w0' (by simp only [B.pt]; omega) ⟨b3, b3'⟩
    simp -dsimp only [ev, hj.len]
    have ei := q (.eith b b') x w' (by simp only [B.dp]; omega) w0' (by simp only [B.pt]; omega) ⟨b3, b3'⟩
    refine br_d (fun h4 => ?_) fun h4 => ?_
    · simp -dsimp only [ev]
      exact ei
    simp -dsimp only [ev, hj.len]
    refine br_d (fun h5 => ?_) fun h5 => ?_
    · simp -dsimp only [ev]
      exact ei
    simp -dsimp only [ev]
    refine draw_ok (by decide) (by decide) fun r2 x r20 r21 => ?_
    simp -dsimp only [ev]
    refine draw_ok (by decide) (by decide) fun r3 x r30 r31 => ?_
    simp -dsimp only [ev]
    refine ata_ok r30 r31 fun nd hn _ => ?_
    have hN : ∃ i, nd = .int i ∧ Nd i := by
      simp only [List.mem_cons, List.not_mem_nil, or_false] at hn
      rcases hn with rfl | rfl | rfl | rfl
      · exact ⟨_, rfl, by decide, by decide⟩
      · exact ⟨_, rfl, by decide, by decide⟩
      · exact ⟨_, rfl, by decide, by decide⟩
      · exact ⟨_, rfl, by omega, by omega⟩
    obtain ⟨i, rfl, hN⟩ := hN
    simp -dsimp only [ev, hj.len]
    refine draw_ok (by omega) (by omega) fun r4 x r40 r41 => ?_
    refine hj.at' r40 r41 fun j hjj => ?_
    simp -dsimp only [ev]
    exact q (.take j i b b') x w' (by simp only [B.dp]; omega) w0' (by simp only [B.pt]; omega) ⟨hjj, hN, b3, b3'⟩
end
end J
/-! S5: rows. -/
namespace J
open PySem L2
/-- how many rows -/
def B.nr : B → Nat
  | .rest => 0
  | .thn a b => a.nr + b.nr
  | .take _ _ a b => 1 + a.nr + b.nr
  | .eith a b => 1 + a.nr + b.nr
  | .oft a => 1 + a.nr
  | _ => 1
theorem B.nr_le (b : B) : b.nr ≤ b.pt := by
  induction b <;> simp only [B.nr, B.pt] <;> omega
theorem B.pt_le (b : B) : b.pt + 1 ≤ 2 ^ (b.dp + 1) := by
  induction b <;> simp only [B.pt, B.dp]
  case take _ _ a b h1 h2 =>
    have h3 := Nat.pow_le_pow_right (n := 2) (by decide) (show a.dp + 1 ≤ max a.dp b.dp + 1 by omega)
    have h4 := Nat.pow_le_pow_right (n := 2) (by decide) (show b.dp + 1 ≤ max a.dp b.dp + 1 by omega)
    rw [Nat.pow_succ]; omega
  case thn a b h1 h2 =>
    have h3 := Nat.pow_le_pow_right (n := 2) (by decide) (show a.dp + 1 ≤ max a.dp b.dp + 1 by omega)
    have h4 := Nat.pow_le_pow_right (n := 2) (by decide) (show b.dp + 1 ≤ max a.dp b.dp + 1 by omega)
    rw [Nat.pow_succ]; omega
  case eith a b h1 h2 =>
    have h3 := Nat.pow_le_pow_right (n := 2) (by decide) (show a.dp + 1 ≤ max a.dp b.dp + 1 by omega)
    have h4 := Nat.pow_le_pow_right (n := 2) (by decide) (show b.dp + 1 ≤ max a.dp b.dp + 1 by omega)
    rw [Nat.pow_succ]; omega
  case oft a h1 => rw [Nat.pow_succ]; omega
  all_goals decide
theorem many_ok (b : B) : ∀ K, b.dp < K → callP U G K 1 [b.d] = M.pure (.v (.int b.nr)) := by
  induction b <;> (intro K hK; refine pure_of fun μ Q q => ?_; obtain ⟨K, rfl⟩ := kS hK; try simp only [B.dp] at hK; rw [c_many_rows]; unfold b_many_rows; simp -dsimp (disch := omega) only [B.d, wp_pure, *, ev, ofS_inj, String.reduceEq, Int.reduceNeg, decide_true, decide_false, Bool.not_true, Bool.not_false, Bool.not_eq_true, true_or, or_true, or_false, false_or, true_and, and_true, and_false, false_and, or_self, and_self]; try exact q)
/-- where a body begins -/
def B.bg (at' bh : Int) : B → Int
  | .rest => bh
  | .thn a b => a.bg at' (b.bg (at' + a.nr) bh)
  | _ => at'
theorem begin_ok (b : B) : ∀ K, b.dp < K → ∀ at' bh, callP U G K 2 [b.d, .int at', .int bh] = M.pure (.v (.int (b.bg at' bh))) := by
  induction b <;> (intro K hK at' bh; refine pure_of fun μ Q q => ?_; obtain ⟨K, rfl⟩ := kS hK; try simp only [B.dp] at hK; rw [c_begin]; unfold b_begin; simp -dsimp (disch := omega) only [B.d, wp_pure, many_ok, *, ev, ofS_inj, String.reduceEq, Int.reduceNeg, decide_true, decide_false, Bool.not_true, Bool.not_false, Bool.not_eq_true, true_or, or_true, or_false, false_or, true_and, and_true, and_false, false_and, or_self, and_self]; try exact q)
end J
/-! S6: charts. -/
namespace J
open PySem L2
def B.ly (at' bh : Int) : B → List D
  | .rest => []
  | .pay t b => [.tup [.str "pay", .tup [.int t, .int b], .int bh]]
  | .put j n => [.tup [.str "put", .str j, .int n, .int bh]]
  | .use d => [.tup [.str "use", .str d, .int bh]]
  | .take j n a b => .tup [.str "take", .str j, .int n, .int (a.bg (at' + 1) bh), .int (b.bg (at' + 1 + a.nr) bh)] :: (a.ly (at' + 1) bh ++ b.ly (at' + 1 + a.nr) bh)
  | .thn a b => a.ly at' (b.bg (at' + a.nr) bh) ++ b.ly (at' + a.nr) bh
  | .eith a b => .tup [.str "either", .int (a.bg (at' + 1) bh), .int (b.bg (at' + 1 + a.nr) bh)] :: (a.ly (at' + 1) bh ++ b.ly (at' + 1 + a.nr) bh)
  | .oft a => .tup [.str "often", .int (a.bg (at' + 1) at'), .int bh] :: a.ly (at' + 1) at'
theorem B.ly_len : ∀ (b : B) (at' bh : Int), (b.ly at' bh).length = b.nr := by
  intro b
  induction b <;> intro at' bh <;> simp only [B.ly, B.nr, List.length_nil, List.length_cons, List.length_append, *] <;> omega
theorem B.nr_12 {b : B} (h : b.dp ≤ 12) : b.nr ≤ 10000 := by
  have h1 := b.nr_le
  have h2 := b.pt_le
  have h3 := Nat.pow_le_pow_right (n := 2) (by decide) (show b.dp + 1 ≤ 13 by omega)
  omega
theorem set_get' {μ : Sto} {j : Nat} {c c' : Cell} (h : μ[j]? = some c) : (μ.set j c')[j]? = some c' := set_get h
theorem set_same {μ : Sto} {l : Nat} {c : Cell} (h : μ[l]? = some c) : μ.set l c = μ := by
  apply List.ext_getElem?
  intro i
  by_cases e : i = l
  · subst e; rw [set_get h, h]
  · rw [List.getElem?_set_ne (Ne.symm e)]
theorem lay_ok (b : B) : ∀ K, b.dp < K → b.dp ≤ 12 → ∀ (l : Nat) (xs : List D) (bh : Int) (μ : Sto) (Q : RV → Sto → Prop) (E : XQ), μ[l]? = some (.lst xs) → xs.length + b.nr ≤ 500000 → Q (.v .non) (μ.set l (.lst (xs ++ b.ly xs.length bh))) → Wp (callP U G K 3 [.ref l, b.d, .int bh]) μ Q E := by
  induction b <;> (intro K hK hD l xs bh μ Q E hl hn q; obtain ⟨K, rfl⟩ := kS hK; try simp only [B.dp] at hK hD; rw [c_lay]; unfold b_lay; simp only [B.nr] at hn; have hz : xs.length + 1 ≤ 1000000 := by omega)
  case rest =>
    simp -dsimp (disch := omega) only [B.d, bl_len_ref hl, ev, ofS_inj, String.reduceEq, Int.reduceNeg, decide_true, decide_false, Bool.not_true, Bool.not_false, Bool.not_eq_true, true_or, or_true, or_false, false_or, true_and, and_true, and_false, false_and, or_self, and_self]
    simp only [B.ly, List.append_nil, set_same hl] at q; exact q
  case thn a b i1 i2 =>
    simp -dsimp (disch := omega) only [B.d, bl_len_ref hl, wp_pure, many_ok, begin_ok, ev, ofS_inj, String.reduceEq, Int.reduceNeg, decide_true, decide_false, Bool.not_true, Bool.not_false, Bool.not_eq_true, true_or, or_true, or_false, false_or, true_and, and_true, and_false, false_and, or_self, and_self]
    refine i1 K (by omega) (by omega) l xs _ μ _ _ hl (by omega) ?_
    simp -dsimp (disch := omega) only [ev, ofS_inj, String.reduceEq, Int.reduceNeg, decide_true, decide_false, Bool.not_true, Bool.not_false, Bool.not_eq_true, true_or, or_true, or_false, false_or, true_and, and_true, and_false, false_and, or_self, and_self]
    refine i2 K (by omega) (by omega) l _ _ _ _ _ (set_get' hl) (by simp only [List.length_append, B.ly_len]; omega) ?_
    simp -dsimp (disch := omega) only [ev, ofS_inj, String.reduceEq, Int.reduceNeg, decide_true, decide_false, Bool.not_true, Bool.not_false, Bool.not_eq_true, true_or, or_true, or_false, false_or, true_and, and_true, and_false, false_and, or_self, and_self]
    simp only [List.set_set, List.append_assoc, List.length_append, B.ly_len, Int.natCast_add]
    exact q
  case oft a i1 =>
    simp -dsimp (disch := omega) only [B.d, bl_len_ref hl, wp_pure, many_ok, begin_ok, il_ref hl, xm_ref1 hl hz, ev, ofS_inj, String.reduceEq, Int.reduceNeg, decide_true, decide_false, Bool.not_true, Bool.not_false, Bool.not_eq_true, true_or, or_true, or_false, false_or, true_and, and_true, and_false, false_and, or_self, and_self]
    refine i1 K (by omega) (by omega) l _ _ _ _ _ (set_get' hl) (by simp only [List.length_append, List.length_singleton]; omega) ?_
    simp -dsimp (disch := omega) only [ev, ofS_inj, String.reduceEq, Int.reduceNeg, decide_true, decide_false, Bool.not_true, Bool.not_false, Bool.not_eq_true, true_or, or_true, or_false, false_or, true_and, and_true, and_false, false_and, or_self, and_self]
    simp only [List.set_set, List.append_assoc, List.length_append, List.length_singleton, Int.natCast_add, Int.cast_ofNat_Int, List.cons_append, List.nil_append]
    exact q
  case take j z a b i1 i2 =>
    simp -dsimp (disch := omega) only [B.d, bl_len_ref hl, wp_pure, many_ok, begin_ok, il_ref hl, ev, ofS_inj, String.reduceEq, Int.reduceNeg, decide_true, decide_false, Bool.not_true, Bool.not_false, Bool.not_eq_true, true_or, or_true, or_false, false_or, true_and, and_true, and_false, false_and, or_self, and_self]
    rw [bn_addt (by simp)]
    simp -dsimp (disch := omega) only [xm_ref1 hl hz, List.cons_append, List.nil_append, ev, ofS_inj, String.reduceEq, Int.reduceNeg, decide_true, decide_false, Bool.not_true, Bool.not_false, Bool.not_eq_true, true_or, or_true, or_false, false_or, true_and, and_true, and_false, false_and, or_self, and_self]
    refine i1 K (by omega) (by omega) l _ _ _ _ _ (set_get' hl) (by simp only [List.length_append, List.length_singleton]; omega) ?_
    simp -dsimp (disch := omega) only [ev, ofS_inj, String.reduceEq, Int.reduceNeg, decide_true, decide_false, Bool.not_true, Bool.not_false, Bool.not_eq_true, true_or, or_true, or_false, false_or, true_and, and_true, and_false, false_and, or_self, and_self]
    refine i2 K (by omega) (by omega) l _ _ _ _ _ (set_get' (set_get' hl)) (by simp only [List.length_append, List.length_singleton, B.ly_len]; omega) ?_
    simp -dsimp (disch := omega) only [ev, ofS_inj, String.reduceEq, Int.reduceNeg, decide_true, decide_false, Bool.not_true, Bool.not_false, Bool.not_eq_true, true_or, or_true, or_false, false_or, true_and, and_true, and_false, false_and, or_self, and_self]
    simp only [List.set_set, List.append_assoc, List.length_append, List.length_singleton, List.length_cons, B.ly_len, Int.natCast_add, Int.cast_ofNat_Int, List.cons_append, List.nil_append, show (xs.length : Int) + ((a.nr : Int) + 1) = xs.length + 1 + a.nr from by omega]
    exact q
  case eith a b i1 i2 =>
    simp -dsimp (disch := omega) only [B.d, bl_len_ref hl, wp_pure, many_ok, begin_ok, il_ref hl, ev, ofS_inj, String.reduceEq, Int.reduceNeg, decide_true, decide_false, Bool.not_true, Bool.not_false, Bool.not_eq_true, true_or, or_true, or_false, false_or, true_and, and_true, and_false, false_and, or_self, and_self]
    rw [bn_addt (by simp)]
    simp -dsimp (disch := omega) only [xm_ref1 hl hz, List.cons_append, List.nil_append, ev, ofS_inj, String.reduceEq, Int.reduceNeg, decide_true, decide_false, Bool.not_true, Bool.not_false, Bool.not_eq_true, true_or, or_true, or_false, false_or, true_and, and_true, and_false, false_and, or_self, and_self]
    refine i1 K (by omega) (by omega) l _ _ _ _ _ (set_get' hl) (by simp only [List.length_append, List.length_singleton]; omega) ?_
    simp -dsimp (disch := omega) only [ev, ofS_inj, String.reduceEq, Int.reduceNeg, decide_true, decide_false, Bool.not_true, Bool.not_false, Bool.not_eq_true, true_or, or_true, or_false, false_or, true_and, and_true, and_false, false_and, or_self, and_self]
    refine i2 K (by omega) (by omega) l _ _ _ _ _ (set_get' (set_get' hl)) (by simp only [List.length_append, List.length_singleton, B.ly_len]; omega) ?_
    simp -dsimp (disch := omega) only [ev, ofS_inj, String.reduceEq, Int.reduceNeg, decide_true, decide_false, Bool.not_true, Bool.not_false, Bool.not_eq_true, true_or, or_true, or_false, false_or, true_and, and_true, and_false, false_and, or_self, and_self]
    simp only [List.set_set, List.append_assoc, List.length_append, List.length_singleton, List.length_cons, B.ly_len, Int.natCast_add, Int.cast_ofNat_Int, List.cons_append, List.nil_append, show (xs.length : Int) + ((a.nr : Int) + 1) = xs.length + 1 + a.nr from by omega]
    exact q
  all_goals
    simp -dsimp (disch := omega) only [B.d, bl_len_ref hl, il_ref hl, ev, ofS_inj, String.reduceEq, Int.reduceNeg, decide_true, decide_false, Bool.not_true, Bool.not_false, Bool.not_eq_true, true_or, or_true, or_false, false_or, true_and, and_true, and_false, false_and, or_self, and_self]
    rw [bn_addt (by simp)]
    simp -dsimp (disch := omega) only [xm_ref1 hl hz, List.cons_append, List.nil_append, ev, ofS_inj, String.reduceEq, Int.reduceNeg, decide_true, decide_false, Bool.not_true, Bool.not_false, Bool.not_eq_true, true_or, or_true, or_false, false_or, true_and, and_true, and_false, false_and, or_self, and_self]
    exact q
theorem app_get {μ : Sto} {c : Cell} : (μ ++ [c])[μ.length]? = some c := by simp
theorem app_set {μ : Sto} {c c' : Cell} : (μ ++ [c]).set μ.length c' = μ ++ [c'] := by simp
/-- a chart's rows -/
def B.ch (b : B) : List D := b.ly 0 b.nr ++ [.tup [.str "end"]]
theorem B.ch_len (b : B) : b.ch.length = b.nr + 1 := by unfold B.ch; simp [B.ly_len]
theorem chart_ok (b : B) {K : Nat} (hK : b.dp + 1 < K) (hD : b.dp ≤ 12) {μ : Sto} {Q : RV → Sto → Prop} {E : XQ} (q : ∀ c, Q (.v (.tup b.ch)) (μ ++ [c])) : Wp (callP U G K 4 [b.d]) μ Q E := by
  obtain ⟨K, rfl⟩ := kS hK
  have l1 := B.nr_12 hD
  rw [c_chart]; unfold b_chart
  simp -dsimp (disch := omega) only [wp_pure, many_ok, nw_, ev, ofS_inj, String.reduceEq, Int.reduceNeg, decide_true, decide_false, Bool.not_true, Bool.not_false, Bool.not_eq_true, true_or, or_true, or_false, false_or, true_and, and_true, and_false, false_and, or_self, and_self]
  refine lay_ok b K (by omega) hD μ.length [] _ _ _ _ app_get (by simp only [List.length_nil]; omega) ?_
  rw [app_set]
  have h1 : (μ ++ [Cell.lst (b.ly 0 b.nr)])[μ.length]? = some (.lst (b.ly 0 b.nr)) := app_get
  have h2 : (μ ++ [Cell.lst b.ch])[μ.length]? = some (.lst b.ch) := app_get
  simp only [List.nil_append, List.length_nil, Int.cast_ofNat_Int]
  simp -dsimp (disch := omega) only [il_ref h1, xm_ref1 h1 (show (b.ly 0 b.nr).length + 1 ≤ 1000000 by rw [B.ly_len]; omega), ev, ofS_inj, String.reduceEq, Int.reduceNeg, decide_true, decide_false, Bool.not_true, Bool.not_false, Bool.not_eq_true, true_or, or_true, or_false, false_or, true_and, and_true, and_false, false_and, or_self, and_self]
  rw [app_set]
  show Bl _ _ (μ ++ [Cell.lst b.ch]) _
  rw [bl_tup_ref h2]
  simp -dsimp (disch := omega) only [ev, ofS_inj, String.reduceEq, Int.reduceNeg, decide_true, decide_false, Bool.not_true, Bool.not_false, Bool.not_eq_true, true_or, or_true, or_false, false_or, true_and, and_true, and_false, false_and, or_self, and_self]
  exact q _
/-! the law's own -/
theorem l_many_ok (b : B) : ∀ K, b.dp < K → callP U G K 13 [b.d] = M.pure (.v (.int b.nr)) := by
  induction b <;> (intro K hK; refine pure_of fun μ Q q => ?_; obtain ⟨K, rfl⟩ := kS hK; try simp only [B.dp] at hK; rw [c_l_many]; unfold b_l_many; simp -dsimp (disch := omega) only [B.d, wp_pure, *, ev, ofS_inj, String.reduceEq, Int.reduceNeg, decide_true, decide_false, Bool.not_true, Bool.not_false, Bool.not_eq_true, true_or, or_true, or_false, false_or, true_and, and_true, and_false, false_and, or_self, and_self]; try exact q)
theorem l_rows_ok (b : B) : ∀ K, b.dp < K → b.dp ≤ 12 → ∀ at' bh : Int, callP U G K 14 [b.d, .int at', .int bh] = M.pure (.v (.tup [.int (b.bg at' bh), .lst (b.ly at' bh)])) := by
  induction b <;> (intro K hK hD at' bh; refine pure_of fun μ Q q => ?_; obtain ⟨K, rfl⟩ := kS hK; try simp only [B.dp] at hK hD; rw [c_l_rows]; unfold b_l_rows)
  case thn a b i1 i2 =>
    have n1 := B.nr_12 (b := a) (by omega)
    have n2 := B.nr_12 (b := b) (by omega)
    simp -dsimp (disch := omega) only [B.d, wp_pure, l_many_ok, i1, i2, ev, ofS_inj, String.reduceEq, Int.reduceNeg, decide_true, decide_false, Bool.not_true, Bool.not_false, Bool.not_eq_true, true_or, or_true, or_false, false_or, true_and, and_true, and_false, false_and, or_self, and_self]
    rw [bn_addl (by simp only [B.ly_len]; omega)]
    simp -dsimp (disch := omega) only [ev, ofS_inj, String.reduceEq, Int.reduceNeg, decide_true, decide_false, Bool.not_true, Bool.not_false, Bool.not_eq_true, true_or, or_true, or_false, false_or, true_and, and_true, and_false, false_and, or_self, and_self]
    exact q
  case oft a i1 =>
    have n1 := B.nr_12 (b := a) (by omega)
    simp -dsimp (disch := omega) only [B.d, wp_pure, l_many_ok, i1, ev, ofS_inj, String.reduceEq, Int.reduceNeg, decide_true, decide_false, Bool.not_true, Bool.not_false, Bool.not_eq_true, true_or, or_true, or_false, false_or, true_and, and_true, and_false, false_and, or_self, and_self]
    rw [bn_addl (by simp only [List.length_cons, List.length_nil, B.ly_len]; omega)]
    simp -dsimp (disch := omega) only [ev, ofS_inj, String.reduceEq, Int.reduceNeg, decide_true, decide_false, Bool.not_true, Bool.not_false, Bool.not_eq_true, true_or, or_true, or_false, false_or, true_and, and_true, and_false, false_and, or_self, and_self]
    exact q
  case take j z a b i1 i2 =>
    have n1 := B.nr_12 (b := a) (by omega)
    have n2 := B.nr_12 (b := b) (by omega)
    simp -dsimp (disch := omega) only [B.d, wp_pure, l_many_ok, i1, i2, B.ly_len, ev, ofS_inj, String.reduceEq, Int.reduceNeg, decide_true, decide_false, Bool.not_true, Bool.not_false, Bool.not_eq_true, true_or, or_true, or_false, false_or, true_and, and_true, and_false, false_and, or_self, and_self]
    rw [bn_addt (by simp)]
    simp -dsimp (disch := omega) only [ev, ofS_inj, String.reduceEq, Int.reduceNeg, decide_true, decide_false, Bool.not_true, Bool.not_false, Bool.not_eq_true, true_or, or_true, or_false, false_or, true_and, and_true, and_false, false_and, or_self, and_self]
    rw [bn_addl (by simp only [List.length_cons, List.length_nil, B.ly_len]; omega)]
    simp -dsimp (disch := omega) only [ev, ofS_inj, String.reduceEq, Int.reduceNeg, decide_true, decide_false, Bool.not_true, Bool.not_false, Bool.not_eq_true, true_or, or_true, or_false, false_or, true_and, and_true, and_false, false_and, or_self, and_self]
    rw [bn_addl (by simp only [List.length_cons, List.length_nil, List.length_append, B.ly_len]; omega)]
    simp -dsimp (disch := omega) only [ev, ofS_inj, String.reduceEq, Int.reduceNeg, decide_true, decide_false, Bool.not_true, Bool.not_false, Bool.not_eq_true, true_or, or_true, or_false, false_or, true_and, and_true, and_false, false_and, or_self, and_self]
    exact q
  case eith a b i1 i2 =>
    have n1 := B.nr_12 (b := a) (by omega)
    have n2 := B.nr_12 (b := b) (by omega)
    simp -dsimp (disch := omega) only [B.d, wp_pure, l_many_ok, i1, i2, B.ly_len, ev, ofS_inj, String.reduceEq, Int.reduceNeg, decide_true, decide_false, Bool.not_true, Bool.not_false, Bool.not_eq_true, true_or, or_true, or_false, false_or, true_and, and_true, and_false, false_and, or_self, and_self]
    rw [bn_addt (by simp)]
    simp -dsimp (disch := omega) only [ev, ofS_inj, String.reduceEq, Int.reduceNeg, decide_true, decide_false, Bool.not_true, Bool.not_false, Bool.not_eq_true, true_or, or_true, or_false, false_or, true_and, and_true, and_false, false_and, or_self, and_self]
    rw [bn_addl (by simp only [List.length_cons, List.length_nil, B.ly_len]; omega)]
    simp -dsimp (disch := omega) only [ev, ofS_inj, String.reduceEq, Int.reduceNeg, decide_true, decide_false, Bool.not_true, Bool.not_false, Bool.not_eq_true, true_or, or_true, or_false, false_or, true_and, and_true, and_false, false_and, or_self, and_self]
    rw [bn_addl (by simp only [List.length_cons, List.length_nil, List.length_append, B.ly_len]; omega)]
    simp -dsimp (disch := omega) only [ev, ofS_inj, String.reduceEq, Int.reduceNeg, decide_true, decide_false, Bool.not_true, Bool.not_false, Bool.not_eq_true, true_or, or_true, or_false, false_or, true_and, and_true, and_false, false_and, or_self, and_self]
    exact q
  case rest =>
    simp -dsimp (disch := omega) only [B.d, ev, ofS_inj, String.reduceEq, Int.reduceNeg, decide_true, decide_false, Bool.not_true, Bool.not_false, Bool.not_eq_true, true_or, or_true, or_false, false_or, true_and, and_true, and_false, false_and, or_self, and_self]
    exact q
  all_goals
    simp -dsimp (disch := omega) only [B.d, ev, ofS_inj, String.reduceEq, Int.reduceNeg, decide_true, decide_false, Bool.not_true, Bool.not_false, Bool.not_eq_true, true_or, or_true, or_false, false_or, true_and, and_true, and_false, false_and, or_self, and_self]
    rw [bn_addt (by simp)]
    simp -dsimp (disch := omega) only [ev, ofS_inj, String.reduceEq, Int.reduceNeg, decide_true, decide_false, Bool.not_true, Bool.not_false, Bool.not_eq_true, true_or, or_true, or_false, false_or, true_and, and_true, and_false, false_and, or_self, and_self]
    exact q
end J
/-! S7: uses; plain data alike; charts are right. -/
namespace J
open PySem L2
/-- like the first one, uses in the place of some pays -/
structure Us (ws : List Str) (b b' : B) : Prop where
  dp : b'.dp = b.dp
  nr : b'.nr = b.nr
  pt : b'.pt = b.pt
  al : ∀ J U N K, b.All J U N K → b'.All J (fun w => U w ∨ w ∈ ws) N K
theorem Us.refl {ws : List Str} {b : B} : Us ws b b := ⟨rfl, rfl, rfl, fun J U N K h => B.All.mono (fun _ h => h) (fun _ h => .inl h) (fun _ h => h) (fun _ _ h => h) h⟩
section
variable {n : Nat} {R : List Cell} {wd : D} {ws : List Str}
theorem used_ok (hw : SeqS wd ws) (h0 : 0 < ws.length) (hl : ws.length < 2 ^ 60) (b : B) :
    ∀ (K : Nat) (x : Dl n) (Q : RV → Sto → Prop) (E : XQ), b.dp + 1 < K → (∀ (b' : B) (x : Dl n), Us ws b b' → Q (.v b'.d) (st x R)) → Wp (callP U G K 12 [.ref n, b.d, wd]) (st x R) Q E := by
  induction b <;> (intro K x Q E hK q; obtain ⟨K, rfl⟩ := kS hK; try simp only [B.dp] at hK; rw [c_l_used]; unfold b_l_used)
  case pay t b =>
    obtain ⟨K, rfl⟩ := kS (show 0 < K by omega)
    simp -dsimp (disch := omega) only [B.d, ev, ofS_inj, String.reduceEq, Int.reduceNeg, decide_true, decide_false, Bool.not_true, Bool.not_false, Bool.not_eq_true, true_or, or_true, or_false, false_or, true_and, and_true, and_false, false_and, or_self, and_self]
    refine draw_ok (by decide) (by decide) fun r x r0 r1 => ?_
    simp -dsimp (disch := omega) only [ev, ofS_inj, String.reduceEq, Int.reduceNeg, decide_true, decide_false, Bool.not_true, Bool.not_false, Bool.not_eq_true, true_or, or_true, or_false, false_or, true_and, and_true, and_false, false_and, or_self, and_self]
    refine br_d (fun c => ?_) fun c => ?_
    · simp -dsimp (disch := omega) only [hw.len, ev, ofS_inj, String.reduceEq, Int.reduceNeg, decide_true, decide_false, Bool.not_true, Bool.not_false, Bool.not_eq_true, true_or, or_true, or_false, false_or, true_and, and_true, and_false, false_and, or_self, and_self]
      refine draw_ok (by omega) (by omega) fun r2 x r20 r21 => ?_
      refine hw.at' r20 r21 fun w hw => ?_
      simp -dsimp (disch := omega) only [ev, ofS_inj, String.reduceEq, Int.reduceNeg, decide_true, decide_false, Bool.not_true, Bool.not_false, Bool.not_eq_true, true_or, or_true, or_false, false_or, true_and, and_true, and_false, false_and, or_self, and_self]
      exact q (.use w) x ⟨rfl, rfl, rfl, fun J U N K h => .inr hw⟩
    · simp -dsimp (disch := omega) only [B.d, ev, ofS_inj, String.reduceEq, Int.reduceNeg, decide_true, decide_false, Bool.not_true, Bool.not_false, Bool.not_eq_true, true_or, or_true, or_false, false_or, true_and, and_true, and_false, false_and, or_self, and_self]
      exact q (.pay t b) x Us.refl
  case thn a b i1 i2 =>
    simp -dsimp (disch := omega) only [B.d, ev, ofS_inj, String.reduceEq, Int.reduceNeg, decide_true, decide_false, Bool.not_true, Bool.not_false, Bool.not_eq_true, true_or, or_true, or_false, false_or, true_and, and_true, and_false, false_and, or_self, and_self]
    refine i1 K _ _ _ (by omega) fun a' x u1 => ?_
    simp -dsimp (disch := omega) only [ev, ofS_inj, String.reduceEq, Int.reduceNeg, decide_true, decide_false, Bool.not_true, Bool.not_false, Bool.not_eq_true, true_or, or_true, or_false, false_or, true_and, and_true, and_false, false_and, or_self, and_self]
    refine i2 K _ _ _ (by omega) fun b' x u2 => ?_
    simp -dsimp (disch := omega) only [ev, ofS_inj, String.reduceEq, Int.reduceNeg, decide_true, decide_false, Bool.not_true, Bool.not_false, Bool.not_eq_true, true_or, or_true, or_false, false_or, true_and, and_true, and_false, false_and, or_self, and_self]
    rw [bn_addt (by simp)]
    simp -dsimp (disch := omega) only [List.cons_append, List.nil_append, ev, ofS_inj, String.reduceEq, Int.reduceNeg, decide_true, decide_false, Bool.not_true, Bool.not_false, Bool.not_eq_true, true_or, or_true, or_false, false_or, true_and, and_true, and_false, false_and, or_self, and_self]
    exact q (.thn a' b') x ⟨by simp only [B.dp, u1.dp, u2.dp], by simp only [B.nr, u1.nr, u2.nr], by simp only [B.pt, u1.pt, u2.pt], fun J U N K h => ⟨u1.al _ _ _ _ h.1, u2.al _ _ _ _ h.2⟩⟩
  case eith a b i1 i2 =>
    simp -dsimp (disch := omega) only [B.d, ev, ofS_inj, String.reduceEq, Int.reduceNeg, decide_true, decide_false, Bool.not_true, Bool.not_false, Bool.not_eq_true, true_or, or_true, or_false, false_or, true_and, and_true, and_false, false_and, or_self, and_self]
    refine i1 K _ _ _ (by omega) fun a' x u1 => ?_
    simp -dsimp (disch := omega) only [ev, ofS_inj, String.reduceEq, Int.reduceNeg, decide_true, decide_false, Bool.not_true, Bool.not_false, Bool.not_eq_true, true_or, or_true, or_false, false_or, true_and, and_true, and_false, false_and, or_self, and_self]
    refine i2 K _ _ _ (by omega) fun b' x u2 => ?_
    simp -dsimp (disch := omega) only [ev, ofS_inj, String.reduceEq, Int.reduceNeg, decide_true, decide_false, Bool.not_true, Bool.not_false, Bool.not_eq_true, true_or, or_true, or_false, false_or, true_and, and_true, and_false, false_and, or_self, and_self]
    rw [bn_addt (by simp)]
    simp -dsimp (disch := omega) only [List.cons_append, List.nil_append, ev, ofS_inj, String.reduceEq, Int.reduceNeg, decide_true, decide_false, Bool.not_true, Bool.not_false, Bool.not_eq_true, true_or, or_true, or_false, false_or, true_and, and_true, and_false, false_and, or_self, and_self]
    exact q (.eith a' b') x ⟨by simp only [B.dp, u1.dp, u2.dp], by simp only [B.nr, u1.nr, u2.nr], by simp only [B.pt, u1.pt, u2.pt], fun J U N K h => ⟨u1.al _ _ _ _ h.1, u2.al _ _ _ _ h.2⟩⟩
  case take j z a b i1 i2 =>
    simp -dsimp (disch := omega) only [B.d, ev, ofS_inj, String.reduceEq, Int.reduceNeg, decide_true, decide_false, Bool.not_true, Bool.not_false, Bool.not_eq_true, true_or, or_true, or_false, false_or, true_and, and_true, and_false, false_and, or_self, and_self]
    refine i1 K _ _ _ (by omega) fun a' x u1 => ?_
    simp -dsimp (disch := omega) only [ev, ofS_inj, String.reduceEq, Int.reduceNeg, decide_true, decide_false, Bool.not_true, Bool.not_false, Bool.not_eq_true, true_or, or_true, or_false, false_or, true_and, and_true, and_false, false_and, or_self, and_self]
    refine i2 K _ _ _ (by omega) fun b' x u2 => ?_
    simp -dsimp (disch := omega) only [ev, ofS_inj, String.reduceEq, Int.reduceNeg, decide_true, decide_false, Bool.not_true, Bool.not_false, Bool.not_eq_true, true_or, or_true, or_false, false_or, true_and, and_true, and_false, false_and, or_self, and_self]
    rw [bn_addt (by simp)]
    simp -dsimp (disch := omega) only [List.cons_append, List.nil_append, ev, ofS_inj, String.reduceEq, Int.reduceNeg, decide_true, decide_false, Bool.not_true, Bool.not_false, Bool.not_eq_true, true_or, or_true, or_false, false_or, true_and, and_true, and_false, false_and, or_self, and_self]
    exact q (.take j z a' b') x ⟨by simp only [B.dp, u1.dp, u2.dp], by simp only [B.nr, u1.nr, u2.nr], by simp only [B.pt, u1.pt, u2.pt], fun J U N K h => ⟨h.1, h.2.1, u1.al _ _ _ _ h.2.2.1, u2.al _ _ _ _ h.2.2.2⟩⟩
  case oft a i1 =>
    simp -dsimp (disch := omega) only [B.d, ev, ofS_inj, String.reduceEq, Int.reduceNeg, decide_true, decide_false, Bool.not_true, Bool.not_false, Bool.not_eq_true, true_or, or_true, or_false, false_or, true_and, and_true, and_false, false_and, or_self, and_self]
    refine i1 K _ _ _ (by omega) fun a' x u1 => ?_
    simp -dsimp (disch := omega) only [ev, ofS_inj, String.reduceEq, Int.reduceNeg, decide_true, decide_false, Bool.not_true, Bool.not_false, Bool.not_eq_true, true_or, or_true, or_false, false_or, true_and, and_true, and_false, false_and, or_self, and_self]
    exact q (.oft a') x ⟨by simp only [B.dp, u1.dp], by simp only [B.nr, u1.nr], by simp only [B.pt, u1.pt], fun J U N K h => u1.al _ _ _ _ h⟩
  all_goals
    simp -dsimp (disch := omega) only [B.d, ev, ofS_inj, String.reduceEq, Int.reduceNeg, decide_true, decide_false, Bool.not_true, Bool.not_false, Bool.not_eq_true, true_or, or_true, or_false, false_or, true_and, and_true, and_false, false_and, or_self, and_self]
    exact q _ x Us.refl
end
theorem bn_addm {α : Type} {f : α → D} {as bs : List α} {kk : RV → Prop} (h : as.length + bs.length ≤ 1000000) : Bn .add (.lst (as.map f)) (.lst (bs.map f)) kk ↔ kk (.fr ((as ++ bs).map f)) := by
  rw [bn_addl (by rw [List.length_map, List.length_map]; exact h), List.map_append]
/-- a comprehension of truths -/
theorem cmp_true {C : Calls} {g : GT} {ds : List D} {ρ : Env} {μ : Sto} {Q : RV → Sto → Prop} {own : List Nat} {t : T} {e : J.E} (I : Sto → Prop) (hl : ds.length ≤ 1000000) (i : I μ) (h : ∀ d ∈ ds, ∀ μ, I μ → Ci C g own t none e ρ d μ fun o μ' => I μ' ∧ o = some (.bl true))
    (q : ∀ os μ', I μ' → (∀ d ∈ os, d = D.bl true) → Q (.fr os) μ') : Cmp C g own t none e ds ρ μ Q := by
  refine cmp_inv I (fun _ o => o = some (.bl true)) hl i h fun os μ' i' h2 => q _ _ i' ?_
  clear hl h
  induction h2 with
  | nil => intro d hd; simp at hd
  | cons h _ ih =>
    subst h
    intro d hd
    simp only [List.filterMap_cons, id, List.mem_cons] at hd
    rcases hd with rfl | hd
    · rfl
    · exact ih d hd
/-- plain data: numbers, words and tuples, one within another -/
inductive Pl : Nat → D → Prop
  | int {k : Nat} (i : Int) : Pl k (.int i)
  | str {k : Nat} {x : Str} (h : PyData.strOk x = true) : Pl k (.str x)
  | tup {k : Nat} {ds : List D} (hl : ds.length ≤ 1000000) (h : ∀ d ∈ ds, Pl k d) : Pl (k + 1) (.tup ds)
theorem Pl.mono {k : Nat} {d : D} (h : Pl k d) : Pl (k + 1) d := by
  induction h with
  | int i => exact .int i
  | str h => exact .str h
  | tup hl h ih => exact .tup hl ih
theorem zip_same : ∀ ds : List D, zipD ds ds = ds.map fun d => D.tup [d, d]
  | [] => rfl
  | d :: r => by simp only [zipD, List.map_cons, zip_same r]
theorem all_tt {α : Type} {as : List α} : as.all (fun _ => true) = true := List.all_eq_true.mpr fun _ _ => rfl
theorem alike_ok : ∀ (k : Nat) (d : D), Pl k d → ∀ K, k < K → callP U G K 15 [d, d] = M.pure (.v (.bl true)) := by
  intro k
  induction k with
  | zero =>
    intro d hp K hK
    refine pure_of fun μ Q q => ?_
    obtain ⟨K, rfl⟩ := kS hK
    rw [c_l_alike]; unfold b_l_alike
    cases hp with
    | int i => simp -dsimp (disch := omega) only [ev, ofS_inj, String.reduceEq, Int.reduceNeg, decide_true, decide_false, Bool.not_true, Bool.not_false, Bool.not_eq_true, true_or, or_true, or_false, false_or, true_and, and_true, and_false, false_and, or_self, and_self]; exact q
    | str h => simp -dsimp (disch := omega) only [ev, ofS_inj, String.reduceEq, Int.reduceNeg, decide_true, decide_false, Bool.not_true, Bool.not_false, Bool.not_eq_true, true_or, or_true, or_false, false_or, true_and, and_true, and_false, false_and, or_self, and_self]; rw [cm_eqs h h]; simp -dsimp (disch := omega) only [ev, ofS_inj, String.reduceEq, Int.reduceNeg, decide_true, decide_false, Bool.not_true, Bool.not_false, Bool.not_eq_true, true_or, or_true, or_false, false_or, true_and, and_true, and_false, false_and, or_self, and_self]; exact q
  | succ k ih =>
    intro d hp K hK
    refine pure_of fun μ Q q => ?_
    obtain ⟨K, rfl⟩ := kS hK
    rw [c_l_alike]; unfold b_l_alike
    cases hp with
    | int i => simp -dsimp (disch := omega) only [ev, ofS_inj, String.reduceEq, Int.reduceNeg, decide_true, decide_false, Bool.not_true, Bool.not_false, Bool.not_eq_true, true_or, or_true, or_false, false_or, true_and, and_true, and_false, false_and, or_self, and_self]; exact q
    | str h => simp -dsimp (disch := omega) only [ev, ofS_inj, String.reduceEq, Int.reduceNeg, decide_true, decide_false, Bool.not_true, Bool.not_false, Bool.not_eq_true, true_or, or_true, or_false, false_or, true_and, and_true, and_false, false_and, or_self, and_self]; rw [cm_eqs h h]; simp -dsimp (disch := omega) only [ev, ofS_inj, String.reduceEq, Int.reduceNeg, decide_true, decide_false, Bool.not_true, Bool.not_false, Bool.not_eq_true, true_or, or_true, or_false, false_or, true_and, and_true, and_false, false_and, or_self, and_self]; exact q
    | tup hl h =>
      simp -dsimp (disch := omega) only [ev, ofS_inj, String.reduceEq, Int.reduceNeg, decide_true, decide_false, Bool.not_true, Bool.not_false, Bool.not_eq_true, true_or, or_true, or_false, false_or, true_and, and_true, and_false, false_and, or_self, and_self]
      rw [zip_same, cmp_map (h := fun _ => .bl true) hl fun a ha R hR => by
        simp -dsimp (disch := omega) only [ih a (h a ha) K (by omega), wp_pure, ev, ofS_inj, String.reduceEq, Int.reduceNeg, decide_true, decide_false, Bool.not_true, Bool.not_false, Bool.not_eq_true, true_or, or_true, or_false, false_or, true_and, and_true, and_false, false_and, or_self, and_self]
        exact hR]
      simp -dsimp (disch := omega) only [ev, ofS_inj, String.reduceEq, Int.reduceNeg, decide_true, decide_false, Bool.not_true, Bool.not_false, Bool.not_eq_true, true_or, or_true, or_false, false_or, true_and, and_true, and_false, false_and, or_self, and_self]
      rw [all_tt]; exact q
theorem pl_w {s : String} {k : Nat} : Pl k (.str (Str.ofString s)) := .str (strOk_of s)
theorem ly_pl {J U : Str → Prop} {N : Int → Prop} {K : Int → Int → Prop} (hJ : ∀ j, J j → PyData.strOk j = true) (hU : ∀ j, U j → PyData.strOk j = true) (b : B) : b.All J U N K → ∀ at' bh : Int, ∀ d ∈ b.ly at' bh, Pl 2 d := by
  have tp : ∀ {k : Nat} {ds : List D}, ds.length ≤ 5 → (∀ d ∈ ds, Pl k d) → Pl (k + 1) (.tup ds) := fun hl h => .tup (by omega) h
  induction b <;> intro h at' bh d hd <;> simp only [B.ly, List.mem_cons, List.mem_append, List.not_mem_nil, or_false] at hd
  case pay t b =>
    subst hd
    refine tp (by simp) fun d hd => ?_
    simp only [List.mem_cons, List.not_mem_nil, or_false] at hd
    rcases hd with rfl | rfl | rfl
    · exact pl_w
    · refine tp (by simp) fun d hd => ?_
      simp only [List.mem_cons, List.not_mem_nil, or_false] at hd
      rcases hd with rfl | rfl <;> exact .int _
    · exact .int _
  case put j z =>
    subst hd
    refine tp (by simp) fun d hd => ?_
    simp only [List.mem_cons, List.not_mem_nil, or_false] at hd
    rcases hd with rfl | rfl | rfl | rfl
    · exact pl_w
    · exact .str (hJ _ h.1)
    · exact .int _
    · exact .int _
  case use w =>
    subst hd
    refine tp (by simp) fun d hd => ?_
    simp only [List.mem_cons, List.not_mem_nil, or_false] at hd
    rcases hd with rfl | rfl | rfl
    · exact pl_w
    · exact .str (hU _ h)
    · exact .int _
  case take j z a b i1 i2 =>
    rcases hd with rfl | hd | hd
    · refine tp (by simp) fun d hd => ?_
      simp only [List.mem_cons, List.not_mem_nil, or_false] at hd
      rcases hd with rfl | rfl | rfl | rfl | rfl
      · exact pl_w
      · exact .str (hJ _ h.1)
      · exact .int _
      · exact .int _
      · exact .int _
    · exact i1 h.2.2.1 _ _ d hd
    · exact i2 h.2.2.2 _ _ d hd
  case thn a b i1 i2 =>
    rcases hd with hd | hd
    · exact i1 h.1 _ _ d hd
    · exact i2 h.2 _ _ d hd
  case eith a b i1 i2 =>
    rcases hd with rfl | hd | hd
    · refine tp (by simp) fun d hd => ?_
      simp only [List.mem_cons, List.not_mem_nil, or_false] at hd
      rcases hd with rfl | rfl | rfl
      · exact pl_w
      · exact .int _
      · exact .int _
    · exact i1 h.1 _ _ d hd
    · exact i2 h.2 _ _ d hd
  case oft a i1 =>
    rcases hd with rfl | hd
    · refine tp (by simp) fun d hd => ?_
      simp only [List.mem_cons, List.not_mem_nil, or_false] at hd
      rcases hd with rfl | rfl | rfl
      · exact pl_w
      · exact .int _
      · exact .int _
    · exact i1 h _ _ d hd
/-- texts that can be compared -/
def OkW (w : Str) : Prop := PyData.strOk w = true
theorem ch_pl {N : Int → Prop} {K : Int → Int → Prop} (b : B) (hb : b.All OkW OkW N K) (hD : b.dp ≤ 12) : Pl 3 (.tup b.ch) := by
  have := B.nr_12 hD
  refine .tup (by rw [B.ch_len]; omega) fun d hd => ?_
  rcases List.mem_append.mp hd with hd | hd
  · exact ly_pl (fun _ h => h) (fun _ h => h) b hb _ _ d hd
  · rw [List.mem_singleton.mp hd]
    exact .tup (by simp) fun d hd => by rw [List.mem_singleton.mp hd]; exact pl_w
theorem right_ok {N : Int → Prop} {K' : Int → Int → Prop} (b : B) (hb : b.All OkW OkW N K') {K : Nat} (hK : b.dp + 5 < K) (hD : b.dp ≤ 12) {μ : Sto} {Q : RV → Sto → Prop} {E : XQ} (q : ∀ c, Q (.v (.bl true)) (μ ++ [c])) : Wp (callP U G K 16 [b.d]) μ Q E := by
  obtain ⟨K, rfl⟩ := kS hK
  have l1 := B.nr_12 hD
  rw [c_l_right]; unfold b_l_right
  simp -dsimp (disch := omega) only [wp_pure, l_many_ok, l_rows_ok, ev, ofS_inj, String.reduceEq, Int.reduceNeg, decide_true, decide_false, Bool.not_true, Bool.not_false, Bool.not_eq_true, true_or, or_true, or_false, false_or, true_and, and_true, and_false, false_and, or_self, and_self]
  refine chart_ok b (by omega) hD fun c => ?_
  simp -dsimp (disch := omega) only [ev, ofS_inj, String.reduceEq, Int.reduceNeg, decide_true, decide_false, Bool.not_true, Bool.not_false, Bool.not_eq_true, true_or, or_true, or_false, false_or, true_and, and_true, and_false, false_and, or_self, and_self]
  rw [bn_addl (by simp only [List.length_cons, List.length_nil, B.ly_len]; omega)]
  simp -dsimp (disch := omega) only [ev, ofS_inj, String.reduceEq, Int.reduceNeg, decide_true, decide_false, Bool.not_true, Bool.not_false, Bool.not_eq_true, true_or, or_true, or_false, false_or, true_and, and_true, and_false, false_and, or_self, and_self]
  rw [show D.tup (b.ly 0 b.nr ++ [.tup [.str "end"]]) = .tup b.ch from rfl, alike_ok 3 _ (ch_pl b hb hD) K (by omega)]
  simp -dsimp (disch := omega) only [wp_pure, ev, ofS_inj, String.reduceEq, Int.reduceNeg, decide_true, decide_false, Bool.not_true, Bool.not_false, Bool.not_eq_true, true_or, or_true, or_false, false_or, true_and, and_true, and_false, false_and, or_self, and_self]
  exact q c
theorem okw {ws : List Str} (h : ∀ w ∈ ws, Nm w) : ∀ w ∈ ws, OkW w := fun w hw => (h w hw).ok
theorem gd_of {ws js us : List Str} {b b' : B} (hw : ∀ w ∈ ws, Nm w) (hj : ∀ w ∈ js, w ∈ ws) (hu : ∀ w ∈ us, w ∈ ws) (h : b.All (· ∈ js) (fun _ => False) Nd Kd) (u : Us us b b') : b'.All OkW OkW Nd Kd :=
  B.All.mono (fun w hw' => okw hw w (hj w hw')) (fun w hw' => hw'.elim (fun f => f.elim) fun hw' => okw hw w (hu w hw')) (fun _ h => h) (fun _ _ h => h) (u.al _ _ _ _ h)
end J
/-! S8: traces. -/
namespace J
open PySem L2
/-- a trace: goings one behind the other -/
inductive Tt where
  | nil
  | two (a b : Tt)
  | sd (k : Bool) (t : Tt)
  | go (m : Int) (t r : Tt)
def bI (k : Bool) : Int := if k then 1 else 0
mutual
def Tt.its : Tt → List D
  | .nil => []
  | .two a b => [.tup (a.its), .tup (b.its)]
  | .sd k t => [.int (bI k), .tup (t.its)]
  | .go m t r => .tup [.int m, .tup (t.its)] :: r.its
end
def Tt.d (t : Tt) : D := .tup t.its
theorem Tt.d_nil : Tt.nil.d = .tup [] := rfl
theorem Tt.d_two {a b : Tt} : (Tt.two a b).d = .tup [a.d, b.d] := rfl
theorem Tt.d_sd {k : Bool} {t : Tt} : (Tt.sd k t).d = .tup [.int (bI k), t.d] := rfl
theorem Tt.d_go {m : Int} {t r : Tt} : (Tt.go m t r).d = .tup (.tup [.int m, t.d] :: r.its) := rfl
def gosT : List (Int × Tt) → Tt
  | [] => .nil
  | p :: r => .go p.1 p.2 (gosT r)
theorem gosT_its : ∀ gs : List (Int × Tt), (gosT gs).its = gs.map fun p => .tup [.int p.1, p.2.d]
  | [] => rfl
  | p :: r => by simp only [gosT, Tt.its, List.map_cons, gosT_its r]; rfl
def B.sid (a b : B) (k : Bool) : B := if k then b else a
/-- a trace of a body -/
def IsTr : B → Tt → Prop
  | .thn a b, .two s t => IsTr a s ∧ IsTr b t
  | .eith a b, .sd k t => IsTr (a.sid b k) t
  | .take _ _ a b, .sd k t => IsTr (a.sid b k) t
  | .oft a, .go m t r => 1 ≤ m ∧ IsTr a t ∧ IsTr (.oft a) r
  | .oft _, .nil => True
  | .rest, .nil => True
  | .pay _ _, .nil => True
  | .put _ _, .nil => True
  | .use _, .nil => True
  | _, _ => False
/-- how many goings -/
def Tt.gc : Tt → Nat
  | .nil => 0
  | .two a b => a.gc + b.gc
  | .sd _ t => t.gc
  | .go _ t r => 1 + t.gc + r.gc
/-- numbers of goings -/
def Tt.All (P : Int → Prop) : Tt → Prop
  | .nil => True
  | .two a b => a.All P ∧ b.All P
  | .sd _ t => t.All P
  | .go m t r => P m ∧ t.All P ∧ r.All P
def B.plain : B → Tt
  | .thn a b => .two a.plain b.plain
  | .eith a _ => .sd false a.plain
  | .take _ _ _ b => .sd true b.plain
  | _ => .nil
/-- how many oftens -/
def B.ofs : B → Nat
  | .oft a => 1 + a.ofs
  | .thn a b => a.ofs + b.ofs
  | .eith a b => a.ofs + b.ofs
  | .take _ _ a b => a.ofs + b.ofs
  | _ => 0
def B.led : B → Nat → Tt → Tt
  | .oft _, 0, g => g
  | .oft a, n + 1, g => .go 1 (a.led n g) .nil
  | .thn a b, n, g => if n < a.ofs then .two (a.led n g) b.plain else .two a.plain (b.led (n - a.ofs) g)
  | .eith a b, n, g => if n < a.ofs then .sd false (a.led n g) else .sd true (b.led (n - a.ofs) g)
  | .take _ _ a b, n, g => if n < a.ofs then .sd false (a.led n g) else .sd true (b.led (n - a.ofs) g)
  | _, _, _ => .nil
theorem plain_is (b : B) : IsTr b b.plain := by
  induction b <;> simp only [B.plain, IsTr, B.sid] <;> first | trivial | exact ⟨by assumption, by assumption⟩ | assumption
theorem plain_ok (b : B) : ∀ K, b.dp < K → callP U G K 29 [b.d] = M.pure (.v b.plain.d) := by
  induction b <;> (intro K hK; refine pure_of fun μ Q q => ?_; obtain ⟨K, rfl⟩ := kS hK; try simp only [B.dp] at hK; rw [c_plain_trace]; unfold b_plain_trace; simp -dsimp (disch := omega) only [B.d, wp_pure, *, ev, ofS_inj, String.reduceEq, Int.reduceNeg, decide_true, decide_false, Bool.not_true, Bool.not_false, Bool.not_eq_true, true_or, or_true, or_false, false_or, true_and, and_true, and_false, false_and, or_self, and_self]; try exact q)
theorem oftens_ok (b : B) : ∀ K, b.dp < K → callP U G K 30 [b.d] = M.pure (.v (.int b.ofs)) := by
  induction b <;> (intro K hK; refine pure_of fun μ Q q => ?_; obtain ⟨K, rfl⟩ := kS hK; try simp only [B.dp] at hK; rw [c_oftens]; unfold b_oftens; simp -dsimp (disch := omega) only [B.d, wp_pure, *, ev, ofS_inj, String.reduceEq, Int.reduceNeg, decide_true, decide_false, Bool.not_true, Bool.not_false, Bool.not_eq_true, true_or, or_true, or_false, false_or, true_and, and_true, and_false, false_and, or_self, and_self]; try exact q)
theorem l_plain_ok (b : B) : ∀ K, b.dp < K → callP U G K 32 [b.d] = M.pure (.v b.plain.d) := by
  induction b <;> (intro K hK; refine pure_of fun μ Q q => ?_; obtain ⟨K, rfl⟩ := kS hK; try simp only [B.dp] at hK; rw [c_l_plain]; unfold b_l_plain; simp -dsimp (disch := omega) only [B.d, wp_pure, Bool.false_eq_true, if_true, if_false, Int.reduceSub, *, ev, ofS_inj, String.reduceEq, Int.reduceNeg, decide_true, decide_false, Bool.not_true, Bool.not_false, Bool.not_eq_true, true_or, or_true, or_false, false_or, true_and, and_true, and_false, false_and, or_self, and_self]; try exact q)
theorem led_ok (b : B) : ∀ K, b.dp < K → ∀ (n : Nat) (g : Tt), n < b.ofs → callP U G K 31 [b.d, .int n, g.d] = M.pure (.v (b.led n g).d) := by
  induction b <;> intro K hK n g hn <;> try (exact absurd hn (Nat.not_lt_zero _))
  case oft a i1 =>
    refine pure_of fun μ Q q => ?_
    obtain ⟨K, rfl⟩ := kS hK
    simp only [B.dp] at hK
    simp only [B.ofs] at hn
    rw [c_led_to]; unfold b_led_to
    simp -dsimp (disch := omega) only [B.d, ev, ofS_inj, String.reduceEq, Int.reduceNeg, decide_true, decide_false, Bool.not_true, Bool.not_false, Bool.not_eq_true, true_or, or_true, or_false, false_or, true_and, and_true, and_false, false_and, or_self, and_self]
    cases n with
    | zero =>
      rw [show decide (((0 : Nat) : Int) = 0) = true from rfl]
      simp -dsimp (disch := omega) only [ev, ofS_inj, String.reduceEq, Int.reduceNeg, decide_true, decide_false, Bool.not_true, Bool.not_false, Bool.not_eq_true, true_or, or_true, or_false, false_or, true_and, and_true, and_false, false_and, or_self, and_self]
      exact q
    | succ n =>
      have e1 : decide (((n + 1 : Nat) : Int) = 0) = false := by rw [decide_eq_false]; omega
      have e2 : ((n + 1 : Nat) : Int) - 1 = n := by omega
      simp -dsimp (disch := omega) only [e1, B.d, e2, wp_pure, i1, ev, ofS_inj, String.reduceEq, Int.reduceNeg, decide_true, decide_false, Bool.not_true, Bool.not_false, Bool.not_eq_true, true_or, or_true, or_false, false_or, true_and, and_true, and_false, false_and, or_self, and_self]
      exact q
  all_goals
    rename_i a b i1 i2
    refine pure_of fun μ Q q => ?_
    obtain ⟨K, rfl⟩ := kS hK
    simp only [B.dp] at hK
    simp only [B.ofs] at hn
    rw [c_led_to]; unfold b_led_to
    simp -dsimp (disch := omega) only [B.d, wp_pure, oftens_ok, ev, ofS_inj, String.reduceEq, Int.reduceNeg, decide_true, decide_false, Bool.not_true, Bool.not_false, Bool.not_eq_true, true_or, or_true, or_false, false_or, true_and, and_true, and_false, false_and, or_self, and_self]
    by_cases h : n < a.ofs
    · have e1 : decide ((n : Int) < a.ofs) = true := decide_eq_true (by omega)
      simp only [B.led, h, if_true] at q
      simp -dsimp (disch := omega) only [e1, B.d, wp_pure, i1, plain_ok, ev, ofS_inj, String.reduceEq, Int.reduceNeg, decide_true, decide_false, Bool.not_true, Bool.not_false, Bool.not_eq_true, true_or, or_true, or_false, false_or, true_and, and_true, and_false, false_and, or_self, and_self]
      exact q
    · have e1 : decide ((n : Int) < a.ofs) = false := decide_eq_false (by omega)
      have e2 : (n : Int) - a.ofs = ((n - a.ofs : Nat) : Int) := by omega
      simp only [B.led, h, if_false] at q
      simp -dsimp (disch := omega) only [e1, e2, B.d, wp_pure, i2, plain_ok, ev, ofS_inj, String.reduceEq, Int.reduceNeg, decide_true, decide_false, Bool.not_true, Bool.not_false, Bool.not_eq_true, true_or, or_true, or_false, false_or, true_and, and_true, and_false, false_and, or_self, and_self]
      exact q
end J
/-! S9: traces dealt; ways to oftens. -/
namespace J
open PySem L2
theorem gosT_gc (gs : List (Int × Tt)) (p : Int × Tt) : (gosT (gs ++ [p])).gc = (gosT gs).gc + (1 + p.2.gc) := by
  induction gs with
  | nil => simp [gosT, Tt.gc]
  | cons a r ih => simp only [List.cons_append, gosT, Tt.gc, ih]; omega
theorem gosT_is (a : B) : ∀ gs : List (Int × Tt), (∀ p ∈ gs, 1 ≤ p.1 ∧ IsTr a p.2) → IsTr (.oft a) (gosT gs)
  | [], _ => trivial
  | p :: r, h => ⟨(h p List.mem_cons_self).1, (h p List.mem_cons_self).2, gosT_is a r fun q hq => h q (List.mem_cons_of_mem _ hq)⟩
theorem gosT_all {P : Int → Prop} : ∀ gs : List (Int × Tt), (∀ p ∈ gs, P p.1 ∧ p.2.All P) → (gosT gs).All P
  | [], _ => trivial
  | p :: r, h => ⟨(h p List.mem_cons_self).1, (h p List.mem_cons_self).2, gosT_all r fun q hq => h q (List.mem_cons_of_mem _ hq)⟩
theorem set_idem {R : List Cell} {j : Nat} {c : Cell} (h : R[j]? = some c) : R.set j c = R := set_same (μ := R) h
theorem rng_int {z : Int} : ∀ d ∈ rngL z, ∃ i : Int, d = .int i := fun d hd => by
  unfold rngL at hd
  obtain ⟨i, _, rfl⟩ := List.mem_map.mp hd
  exact ⟨_, rfl⟩
theorem rng_0 : rngL 0 = [] := rfl
def G3 (m : Int) : Prop := 1 ≤ m ∧ m ≤ 3
section
variable {n : Nat} {l j : Nat}
theorem l_trace_ok (h : l = n + 1 + j) (b : B) : ∀ (K : Nat) (z : Int) (x : Dl n) (R : List Cell) (Q : RV → Sto → Prop) (E : XQ), b.dp + 1 < K → R[j]? = some (.lst [.int z]) → 0 ≤ z →
    (∀ (t : Tt) (x : Dl n) (w : Int), IsTr b t → t.All G3 → 0 ≤ w → (t.gc : Int) = z - w → Q (.v t.d) (st x (R.set j (.lst [.int w])))) → Wp (callP U G K 21 [.ref n, b.d, .ref l]) (st x R) Q E := by
  induction b <;> (intro K z x R Q E hK hz z0 q; obtain ⟨K, rfl⟩ := kS hK; try simp only [B.dp] at hK; rw [c_l_trace]; unfold b_l_trace)
  case thn a b i1 i2 =>
    simp -dsimp (disch := omega) only [B.d, ev, ofS_inj, String.reduceEq, Int.reduceNeg, decide_true, decide_false, Bool.not_true, Bool.not_false, Bool.not_eq_true, true_or, or_true, or_false, false_or, true_and, and_true, and_false, false_and, or_self, and_self]
    refine i1 K _ _ _ _ _ (by omega) hz z0 fun t x w t1 t2 w0 t3 => ?_
    simp -dsimp (disch := omega) only [B.d, ev, ofS_inj, String.reduceEq, Int.reduceNeg, decide_true, decide_false, Bool.not_true, Bool.not_false, Bool.not_eq_true, true_or, or_true, or_false, false_or, true_and, and_true, and_false, false_and, or_self, and_self]
    refine i2 K _ _ _ _ _ (by omega) (set_get hz) w0 fun t' x w' t1' t2' w0' t3' => ?_
    rw [List.set_set]
    simp -dsimp (disch := omega) only [ev, ofS_inj, String.reduceEq, Int.reduceNeg, decide_true, decide_false, Bool.not_true, Bool.not_false, Bool.not_eq_true, true_or, or_true, or_false, false_or, true_and, and_true, and_false, false_and, or_self, and_self]
    exact q (.two t t') x w' ⟨t1, t1'⟩ ⟨t2, t2'⟩ w0' (by simp only [Tt.gc]; omega)
  case oft a i1 =>
    obtain ⟨K, rfl⟩ := kS (show 0 < K by omega)
    simp -dsimp (disch := omega) only [B.d, ev, ofS_inj, String.reduceEq, Int.reduceNeg, decide_true, decide_false, Bool.not_true, Bool.not_false, Bool.not_eq_true, true_or, or_true, or_false, false_or, true_and, and_true, and_false, false_and, or_self, and_self]
    refine draw_ok (by first | decide | omega) (by first | decide | omega) fun r x r0 r1 => ?_
    simp -dsimp (disch := omega) only [B.d, ev, ofS_inj, String.reduceEq, Int.reduceNeg, decide_true, decide_false, Bool.not_true, Bool.not_false, Bool.not_eq_true, true_or, or_true, or_false, false_or, true_and, and_true, and_false, false_and, or_self, and_self]
    rw [bn_mul (mul_sm r0 (by omega) (by decide) (by decide))]
    simp only [if_true, Int.mul_one]
    simp -dsimp (disch := omega) only [ev, ofS_inj, String.reduceEq, Int.reduceNeg, decide_true, decide_false, Bool.not_true, Bool.not_false, Bool.not_eq_true, true_or, or_true, or_false, false_or, true_and, and_true, and_false, false_and, or_self, and_self]
    refine ⟨by omega, each_inv (fun ds ρ μ => ∃ (gs : List (Int × Tt)) (x : Dl n) (w : Int) (x6 : Slot), ρ = [.val (.ref n), .val (B.oft a).d, .val (.ref l), .none, .none, .own (gs.map fun p => .tup [.int p.1, p.2.d]), x6] ∧ μ = st x (R.set j (.lst [.int w])) ∧ 0 ≤ w ∧ ((gosT gs).gc : Int) = z - w ∧ (∀ p ∈ gs, 1 ≤ p.1 ∧ IsTr a p.2) ∧ (∀ p ∈ gs, G3 p.1 ∧ p.2.All G3) ∧ gs.length + ds.length ≤ 2) ?_ ?_ ⟨[], x, z, .none, rfl, by rw [set_idem hz], z0, by simp [gosT, Tt.gc], fun p hp => absurd hp List.not_mem_nil, fun p hp => absurd hp List.not_mem_nil, by rw [rngL_len]; simp; omega⟩⟩
    · rintro d ds ρ μ ⟨gs, x, w, x6, rfl, rfl, w0, hg, h1, h2, hl⟩
      simp only [List.length_cons] at hl
      simp -dsimp (disch := omega) only [B.d, ix_at h (set_get hz), ev, ofS_inj, String.reduceEq, Int.reduceNeg, decide_true, decide_false, Bool.not_true, Bool.not_false, Bool.not_eq_true, true_or, or_true, or_false, false_or, true_and, and_true, and_false, false_and, or_self, and_self]
      refine br_d (fun c => ?_) fun c => ?_
      · simp -dsimp (disch := omega) only [B.d, ix_at h (set_get hz), pm_at h (set_get hz), ev, ofS_inj, String.reduceEq, Int.reduceNeg, decide_true, decide_false, Bool.not_true, Bool.not_false, Bool.not_eq_true, true_or, or_true, or_false, false_or, true_and, and_true, and_false, false_and, or_self, and_self]
        rw [List.set_set]
        refine draw_ok (by first | decide | omega) (by first | decide | omega) fun r2 x r20 r21 => ?_
        simp -dsimp (disch := omega) only [B.d, ev, ofS_inj, String.reduceEq, Int.reduceNeg, decide_true, decide_false, Bool.not_true, Bool.not_false, Bool.not_eq_true, true_or, or_true, or_false, false_or, true_and, and_true, and_false, false_and, or_self, and_self]
        refine i1 (K + 1) _ _ _ _ _ (by omega) (set_get hz) (by omega) fun t x w' t1 t2 w0' t3 => ?_
        rw [List.set_set]
        simp -dsimp (disch := omega) only [ev, ofS_inj, String.reduceEq, Int.reduceNeg, decide_true, decide_false, Bool.not_true, Bool.not_false, Bool.not_eq_true, true_or, or_true, or_false, false_or, true_and, and_true, and_false, false_and, or_self, and_self]
        rw [xm_bo1 (by rw [List.length_map]; omega)]
        simp -dsimp (disch := omega) only [ev, ofS_inj, String.reduceEq, Int.reduceNeg, decide_true, decide_false, Bool.not_true, Bool.not_false, Bool.not_eq_true, true_or, or_true, or_false, false_or, true_and, and_true, and_false, false_and, or_self, and_self]
        refine ⟨gs ++ [(1 + r2, t)], x, w', _, by simp only [List.map_append, List.map_cons, List.map_nil, B.d]; rfl, rfl, w0', by rw [gosT_gc]; show (((gosT gs).gc + (1 + t.gc) : Nat) : Int) = _; omega, fun p hp => ?_, fun p hp => ?_, by simp only [List.length_append, List.length_singleton]; omega⟩
        · rcases List.mem_append.mp hp with hp | hp
          · exact h1 p hp
          · rw [List.mem_singleton.mp hp]; exact ⟨by show 1 ≤ 1 + r2; omega, t1⟩
        · rcases List.mem_append.mp hp with hp | hp
          · exact h2 p hp
          · rw [List.mem_singleton.mp hp]; exact ⟨⟨by show 1 ≤ 1 + r2; omega, by show 1 + r2 ≤ 3; omega⟩, t2⟩
      · simp -dsimp (disch := omega) only [ev, ofS_inj, String.reduceEq, Int.reduceNeg, decide_true, decide_false, Bool.not_true, Bool.not_false, Bool.not_eq_true, true_or, or_true, or_false, false_or, true_and, and_true, and_false, false_and, or_self, and_self]
        exact ⟨gs, x, w, _, rfl, rfl, w0, hg, h1, h2, by omega⟩
    · rintro ρ μ ⟨gs, x, w, x6, rfl, rfl, w0, hg, h1, h2, hl⟩
      simp -dsimp (disch := omega) only [ev, ofS_inj, String.reduceEq, Int.reduceNeg, decide_true, decide_false, Bool.not_true, Bool.not_false, Bool.not_eq_true, true_or, or_true, or_false, false_or, true_and, and_true, and_false, false_and, or_self, and_self]
      have := q (gosT gs) x w (gosT_is a gs h1) (gosT_all gs h2) w0 hg
      unfold Tt.d at this
      rw [gosT_its] at this
      exact this
  case eith a b i1 i2 =>
    obtain ⟨K, rfl⟩ := kS (show 0 < K by omega)
    simp -dsimp (disch := omega) only [B.d, ev, ofS_inj, String.reduceEq, Int.reduceNeg, decide_true, decide_false, Bool.not_true, Bool.not_false, Bool.not_eq_true, true_or, or_true, or_false, false_or, true_and, and_true, and_false, false_and, or_self, and_self]
    refine draw_ok (by first | decide | omega) (by first | decide | omega) fun r x r0 r1 => ?_
    simp -dsimp (disch := omega) only [ev, ofS_inj, String.reduceEq, Int.reduceNeg, decide_true, decide_false, Bool.not_true, Bool.not_false, Bool.not_eq_true, true_or, or_true, or_false, false_or, true_and, and_true, and_false, false_and, or_self, and_self]
    have hr : r = 0 ∨ r = 1 := by omega
    rcases hr with rfl | rfl
    · simp -dsimp (disch := omega) only [B.d, Int.reduceSub, ev, ofS_inj, String.reduceEq, Int.reduceNeg, decide_true, decide_false, Bool.not_true, Bool.not_false, Bool.not_eq_true, true_or, or_true, or_false, false_or, true_and, and_true, and_false, false_and, or_self, and_self]
      refine i1 (K + 1) _ _ _ _ _ (by omega) hz z0 fun t x w t1 t2 w0 t3 => ?_
      simp -dsimp (disch := omega) only [ev, ofS_inj, String.reduceEq, Int.reduceNeg, decide_true, decide_false, Bool.not_true, Bool.not_false, Bool.not_eq_true, true_or, or_true, or_false, false_or, true_and, and_true, and_false, false_and, or_self, and_self]
      exact q (.sd false t) x w t1 t2 w0 t3
    · simp -dsimp (disch := omega) only [B.d, Int.reduceSub, ev, ofS_inj, String.reduceEq, Int.reduceNeg, decide_true, decide_false, Bool.not_true, Bool.not_false, Bool.not_eq_true, true_or, or_true, or_false, false_or, true_and, and_true, and_false, false_and, or_self, and_self]
      refine i2 (K + 1) _ _ _ _ _ (by omega) hz z0 fun t x w t1 t2 w0 t3 => ?_
      simp -dsimp (disch := omega) only [ev, ofS_inj, String.reduceEq, Int.reduceNeg, decide_true, decide_false, Bool.not_true, Bool.not_false, Bool.not_eq_true, true_or, or_true, or_false, false_or, true_and, and_true, and_false, false_and, or_self, and_self]
      exact q (.sd true t) x w t1 t2 w0 t3
  case take jj zz a b i1 i2 =>
    obtain ⟨K, rfl⟩ := kS (show 0 < K by omega)
    simp -dsimp (disch := omega) only [B.d, ev, ofS_inj, String.reduceEq, Int.reduceNeg, decide_true, decide_false, Bool.not_true, Bool.not_false, Bool.not_eq_true, true_or, or_true, or_false, false_or, true_and, and_true, and_false, false_and, or_self, and_self]
    refine draw_ok (by first | decide | omega) (by first | decide | omega) fun r x r0 r1 => ?_
    simp -dsimp (disch := omega) only [ev, ofS_inj, String.reduceEq, Int.reduceNeg, decide_true, decide_false, Bool.not_true, Bool.not_false, Bool.not_eq_true, true_or, or_true, or_false, false_or, true_and, and_true, and_false, false_and, or_self, and_self]
    have hr : r = 0 ∨ r = 1 := by omega
    rcases hr with rfl | rfl
    · simp -dsimp (disch := omega) only [B.d, Int.reduceSub, ev, ofS_inj, String.reduceEq, Int.reduceNeg, decide_true, decide_false, Bool.not_true, Bool.not_false, Bool.not_eq_true, true_or, or_true, or_false, false_or, true_and, and_true, and_false, false_and, or_self, and_self]
      refine i1 (K + 1) _ _ _ _ _ (by omega) hz z0 fun t x w t1 t2 w0 t3 => ?_
      simp -dsimp (disch := omega) only [ev, ofS_inj, String.reduceEq, Int.reduceNeg, decide_true, decide_false, Bool.not_true, Bool.not_false, Bool.not_eq_true, true_or, or_true, or_false, false_or, true_and, and_true, and_false, false_and, or_self, and_self]
      exact q (.sd false t) x w t1 t2 w0 t3
    · simp -dsimp (disch := omega) only [B.d, Int.reduceSub, ev, ofS_inj, String.reduceEq, Int.reduceNeg, decide_true, decide_false, Bool.not_true, Bool.not_false, Bool.not_eq_true, true_or, or_true, or_false, false_or, true_and, and_true, and_false, false_and, or_self, and_self]
      refine i2 (K + 1) _ _ _ _ _ (by omega) hz z0 fun t x w t1 t2 w0 t3 => ?_
      simp -dsimp (disch := omega) only [ev, ofS_inj, String.reduceEq, Int.reduceNeg, decide_true, decide_false, Bool.not_true, Bool.not_false, Bool.not_eq_true, true_or, or_true, or_false, false_or, true_and, and_true, and_false, false_and, or_self, and_self]
      exact q (.sd true t) x w t1 t2 w0 t3
  all_goals
    obtain ⟨K, rfl⟩ := kS (show 0 < K by omega)
    simp -dsimp (disch := omega) only [B.d, ev, ofS_inj, String.reduceEq, Int.reduceNeg, decide_true, decide_false, Bool.not_true, Bool.not_false, Bool.not_eq_true, true_or, or_true, or_false, false_or, true_and, and_true, and_false, false_and, or_self, and_self]
    refine draw_ok (by first | decide | omega) (by first | decide | omega) fun r x r0 r1 => ?_
    simp -dsimp (disch := omega) only [B.d, ev, ofS_inj, String.reduceEq, Int.reduceNeg, decide_true, decide_false, Bool.not_true, Bool.not_false, Bool.not_eq_true, true_or, or_true, or_false, false_or, true_and, and_true, and_false, false_and, or_self, and_self]
    rw [bn_mul (mul_sm r0 (by omega) (by decide) (by decide))]
    simp only [Bool.false_eq_true, if_false, Int.mul_zero]
    simp -dsimp (disch := omega) only [rng_0, ev, ofS_inj, String.reduceEq, Int.reduceNeg, decide_true, decide_false, Bool.not_true, Bool.not_false, Bool.not_eq_true, true_or, or_true, or_false, false_or, true_and, and_true, and_false, false_and, or_self, and_self]
    refine ⟨by omega, ?_⟩
    have := q .nil x z trivial trivial z0 (by simp [Tt.gc])
    rw [set_idem hz] at this
    exact this
end
/-! ### ways to the oftens -/
def B.ways : B → List (List Bool × B)
  | .oft a => ([], .oft a) :: a.ways.map fun p => (false :: p.1, p.2)
  | .thn a b => (a.ways.map fun p => (false :: p.1, p.2)) ++ b.ways.map fun p => (true :: p.1, p.2)
  | .eith a b => (a.ways.map fun p => (false :: p.1, p.2)) ++ b.ways.map fun p => (true :: p.1, p.2)
  | .take _ _ a b => (a.ways.map fun p => (false :: p.1, p.2)) ++ b.ways.map fun p => (true :: p.1, p.2)
  | _ => []
theorem B.ways_len (b : B) : b.ways.length = b.ofs := by
  induction b <;> simp only [B.ways, B.ofs, List.length_cons, List.length_append, List.length_map, List.length_nil, *] <;> omega
theorem B.ofs_le (b : B) : b.ofs ≤ b.pt := by
  induction b <;> simp only [B.ofs, B.pt] <;> omega
def wD (p : List Bool × B) : D := .tup [.lst (p.1.map fun k => .int (bI k)), p.2.d]
theorem l_ways_len (b : B) : ∀ p ∈ b.ways, p.1.length ≤ b.dp := by
  induction b <;> intro p hp <;> simp only [B.ways, List.mem_cons, List.mem_append, List.mem_map, List.not_mem_nil] at hp <;> simp only [B.dp]
  case oft a i1 =>
    rcases hp with rfl | ⟨r, hr, rfl⟩
    · simp
    · have := i1 r hr; simp only [List.length_cons]; omega
  all_goals first
    | exact hp.elim
    | (rename_i a b i1 i2
       rcases hp with ⟨r, hr, rfl⟩ | ⟨r, hr, rfl⟩
       · have := i1 r hr; simp only [List.length_cons]; omega
       · have := i2 r hr; simp only [List.length_cons]; omega)
theorem ways_cmp {C : Calls} {g : GT} {ρ : Env} {μ : Sto} {Q : RV → Sto → Prop} {a0 a1 a2 a3 a4 : Slot} {k : Bool} {ws : List (List Bool × B)} (h1 : ws.length ≤ 1000) (h2 : ∀ p ∈ ws, p.1.length ≤ 1000) (q : Q (.fr ((ws.map fun p => (k :: p.1, p.2)).map wD)) μ) :
    Cmp C g [2, 3] (.tp [(.nm 2), (.nm 3)]) none (.tup [(.bin .add (.lst [(.var 4)]) (.var 2)), (.var 3)]) (ws.map wD) [a0, a1, a2, a3, .val (.int (bI k))] μ Q := by
  rw [cmp_map (h := fun p => wD (k :: p.1, p.2)) (by omega) fun a ha R hR => by
    have := h2 a ha
    simp -dsimp (disch := omega) only [wD, ev, ofS_inj, String.reduceEq, Int.reduceNeg, decide_true, decide_false, Bool.not_true, Bool.not_false, Bool.not_eq_true, true_or, or_true, or_false, false_or, true_and, and_true, and_false, false_and, or_self, and_self]
    rw [bn_addl (by simp only [List.length_cons, List.length_nil, List.length_map]; omega)]
    simp -dsimp (disch := omega) only [ev, ofS_inj, String.reduceEq, Int.reduceNeg, decide_true, decide_false, Bool.not_true, Bool.not_false, Bool.not_eq_true, true_or, or_true, or_false, false_or, true_and, and_true, and_false, false_and, or_self, and_self]
    exact hR]
  rw [List.map_map] at q
  exact q
theorem ways_cmp0 {C : Calls} {g : GT} {ρ : Env} {μ : Sto} {Q : RV → Sto → Prop} {a0 a1 a2 a3 a4 : Slot} {ws : List (List Bool × B)} (h1 : ws.length ≤ 1000) (h2 : ∀ p ∈ ws, p.1.length ≤ 1000) (q : Q (.fr ((ws.map fun p => (false :: p.1, p.2)).map wD)) μ) :
    Cmp C g [2, 3] (.tp [(.nm 2), (.nm 3)]) none (.tup [(.bin .add (.lst [(.lit (.int 0))]) (.var 2)), (.var 3)]) (ws.map wD) [a0, a1, a2, a3, a4] μ Q := by
  rw [cmp_map (h := fun p => wD (false :: p.1, p.2)) (by omega) fun a ha R hR => by
    have := h2 a ha
    simp -dsimp (disch := omega) only [wD, ev, ofS_inj, String.reduceEq, Int.reduceNeg, decide_true, decide_false, Bool.not_true, Bool.not_false, Bool.not_eq_true, true_or, or_true, or_false, false_or, true_and, and_true, and_false, false_and, or_self, and_self]
    rw [bn_addl (by simp only [List.length_cons, List.length_nil, List.length_map]; omega)]
    simp -dsimp (disch := omega) only [ev, ofS_inj, String.reduceEq, Int.reduceNeg, decide_true, decide_false, Bool.not_true, Bool.not_false, Bool.not_eq_true, true_or, or_true, or_false, false_or, true_and, and_true, and_false, false_and, or_self, and_self]
    exact hR]
  rw [List.map_map] at q
  exact q
theorem ofs_9 {b : B} (h : b.dp ≤ 8) : b.ofs ≤ 1000 := by
  have h1 := b.ofs_le
  have h2 := b.pt_le
  have h3 := Nat.pow_le_pow_right (n := 2) (by decide) (show b.dp + 1 ≤ 9 by omega)
  omega
theorem l_ways_ok (b : B) : ∀ K, b.dp < K → b.dp ≤ 8 → callP U G K 33 [b.d] = M.pure (.v (.lst (b.ways.map wD))) := by
  induction b <;> (intro K hK hD; refine pure_of fun μ Q q => ?_; obtain ⟨K, rfl⟩ := kS hK; try simp only [B.dp] at hK hD; rw [c_l_ways]; unfold b_l_ways)
  case oft a i1 =>
    have l1 := ofs_9 (b := a) (by omega)
    simp -dsimp (disch := omega) only [B.d, wp_pure, i1, ev, ofS_inj, String.reduceEq, Int.reduceNeg, decide_true, decide_false, Bool.not_true, Bool.not_false, Bool.not_eq_true, true_or, or_true, or_false, false_or, true_and, and_true, and_false, false_and, or_self, and_self]
    refine ways_cmp0 (ρ := []) (a4 := .none) (by rw [B.ways_len]; omega) (fun p hp => by have := l_ways_len a p hp; omega) ?_
    simp -dsimp (disch := omega) only [ev, ofS_inj, String.reduceEq, Int.reduceNeg, decide_true, decide_false, Bool.not_true, Bool.not_false, Bool.not_eq_true, true_or, or_true, or_false, false_or, true_and, and_true, and_false, false_and, or_self, and_self]
    rw [bn_addl (by simp only [List.length_cons, List.length_nil, List.length_map, B.ways_len]; omega)]
    simp -dsimp (disch := omega) only [B.d, ev, ofS_inj, String.reduceEq, Int.reduceNeg, decide_true, decide_false, Bool.not_true, Bool.not_false, Bool.not_eq_true, true_or, or_true, or_false, false_or, true_and, and_true, and_false, false_and, or_self, and_self]
    exact q
  case thn a b i1 i2 =>
    have l1 := ofs_9 (b := a) (by omega)
    have l2 := ofs_9 (b := b) (by omega)
    simp -dsimp (disch := omega) only [B.d, wp_pure, i1, Int.reduceSub, ev, ofS_inj, String.reduceEq, Int.reduceNeg, decide_true, decide_false, Bool.not_true, Bool.not_false, Bool.not_eq_true, true_or, or_true, or_false, false_or, true_and, and_true, and_false, false_and, or_self, and_self]
    refine ways_cmp (ρ := []) (a4 := .none) (k := false) (by rw [B.ways_len]; omega) (fun p hp => by have := l_ways_len a p hp; omega) ?_
    simp -dsimp (disch := omega) only [ev, ofS_inj, String.reduceEq, Int.reduceNeg, decide_true, decide_false, Bool.not_true, Bool.not_false, Bool.not_eq_true, true_or, or_true, or_false, false_or, true_and, and_true, and_false, false_and, or_self, and_self]
    rw [bn_addl (by simp only [List.length_nil, List.length_map, B.ways_len]; omega)]
    simp -dsimp (disch := omega) only [B.d, wp_pure, i2, Int.reduceSub, ev, ofS_inj, String.reduceEq, Int.reduceNeg, decide_true, decide_false, Bool.not_true, Bool.not_false, Bool.not_eq_true, true_or, or_true, or_false, false_or, true_and, and_true, and_false, false_and, or_self, and_self]
    refine ways_cmp (ρ := []) (a4 := .none) (k := true) (by rw [B.ways_len]; omega) (fun p hp => by have := l_ways_len b p hp; omega) ?_
    simp -dsimp (disch := omega) only [List.nil_append, ev, ofS_inj, String.reduceEq, Int.reduceNeg, decide_true, decide_false, Bool.not_true, Bool.not_false, Bool.not_eq_true, true_or, or_true, or_false, false_or, true_and, and_true, and_false, false_and, or_self, and_self]
    rw [bn_addl (by simp only [List.length_map, B.ways_len]; omega)]
    simp -dsimp (disch := omega) only [ev, ofS_inj, String.reduceEq, Int.reduceNeg, decide_true, decide_false, Bool.not_true, Bool.not_false, Bool.not_eq_true, true_or, or_true, or_false, false_or, true_and, and_true, and_false, false_and, or_self, and_self]
    rw [← List.map_append]
    exact q
  case eith a b i1 i2 =>
    have l1 := ofs_9 (b := a) (by omega)
    have l2 := ofs_9 (b := b) (by omega)
    simp -dsimp (disch := omega) only [B.d, wp_pure, i1, Int.reduceSub, ev, ofS_inj, String.reduceEq, Int.reduceNeg, decide_true, decide_false, Bool.not_true, Bool.not_false, Bool.not_eq_true, true_or, or_true, or_false, false_or, true_and, and_true, and_false, false_and, or_self, and_self]
    refine ways_cmp (ρ := []) (a4 := .none) (k := false) (by rw [B.ways_len]; omega) (fun p hp => by have := l_ways_len a p hp; omega) ?_
    simp -dsimp (disch := omega) only [ev, ofS_inj, String.reduceEq, Int.reduceNeg, decide_true, decide_false, Bool.not_true, Bool.not_false, Bool.not_eq_true, true_or, or_true, or_false, false_or, true_and, and_true, and_false, false_and, or_self, and_self]
    rw [bn_addl (by simp only [List.length_nil, List.length_map, B.ways_len]; omega)]
    simp -dsimp (disch := omega) only [B.d, wp_pure, i2, Int.reduceSub, ev, ofS_inj, String.reduceEq, Int.reduceNeg, decide_true, decide_false, Bool.not_true, Bool.not_false, Bool.not_eq_true, true_or, or_true, or_false, false_or, true_and, and_true, and_false, false_and, or_self, and_self]
    refine ways_cmp (ρ := []) (a4 := .none) (k := true) (by rw [B.ways_len]; omega) (fun p hp => by have := l_ways_len b p hp; omega) ?_
    simp -dsimp (disch := omega) only [List.nil_append, ev, ofS_inj, String.reduceEq, Int.reduceNeg, decide_true, decide_false, Bool.not_true, Bool.not_false, Bool.not_eq_true, true_or, or_true, or_false, false_or, true_and, and_true, and_false, false_and, or_self, and_self]
    rw [bn_addl (by simp only [List.length_map, B.ways_len]; omega)]
    simp -dsimp (disch := omega) only [ev, ofS_inj, String.reduceEq, Int.reduceNeg, decide_true, decide_false, Bool.not_true, Bool.not_false, Bool.not_eq_true, true_or, or_true, or_false, false_or, true_and, and_true, and_false, false_and, or_self, and_self]
    rw [← List.map_append]
    exact q
  case take j z a b i1 i2 =>
    have l1 := ofs_9 (b := a) (by omega)
    have l2 := ofs_9 (b := b) (by omega)
    simp -dsimp (disch := omega) only [B.d, wp_pure, i1, Int.reduceSub, ev, ofS_inj, String.reduceEq, Int.reduceNeg, decide_true, decide_false, Bool.not_true, Bool.not_false, Bool.not_eq_true, true_or, or_true, or_false, false_or, true_and, and_true, and_false, false_and, or_self, and_self]
    refine ways_cmp (ρ := []) (a4 := .none) (k := false) (by rw [B.ways_len]; omega) (fun p hp => by have := l_ways_len a p hp; omega) ?_
    simp -dsimp (disch := omega) only [ev, ofS_inj, String.reduceEq, Int.reduceNeg, decide_true, decide_false, Bool.not_true, Bool.not_false, Bool.not_eq_true, true_or, or_true, or_false, false_or, true_and, and_true, and_false, false_and, or_self, and_self]
    rw [bn_addl (by simp only [List.length_nil, List.length_map, B.ways_len]; omega)]
    simp -dsimp (disch := omega) only [B.d, wp_pure, i2, Int.reduceSub, ev, ofS_inj, String.reduceEq, Int.reduceNeg, decide_true, decide_false, Bool.not_true, Bool.not_false, Bool.not_eq_true, true_or, or_true, or_false, false_or, true_and, and_true, and_false, false_and, or_self, and_self]
    refine ways_cmp (ρ := []) (a4 := .none) (k := true) (by rw [B.ways_len]; omega) (fun p hp => by have := l_ways_len b p hp; omega) ?_
    simp -dsimp (disch := omega) only [List.nil_append, ev, ofS_inj, String.reduceEq, Int.reduceNeg, decide_true, decide_false, Bool.not_true, Bool.not_false, Bool.not_eq_true, true_or, or_true, or_false, false_or, true_and, and_true, and_false, false_and, or_self, and_self]
    rw [bn_addl (by simp only [List.length_map, B.ways_len]; omega)]
    simp -dsimp (disch := omega) only [ev, ofS_inj, String.reduceEq, Int.reduceNeg, decide_true, decide_false, Bool.not_true, Bool.not_false, Bool.not_eq_true, true_or, or_true, or_false, false_or, true_and, and_true, and_false, false_and, or_self, and_self]
    rw [← List.map_append]
    exact q
  all_goals
    simp -dsimp (disch := omega) only [B.d, ev, ofS_inj, String.reduceEq, Int.reduceNeg, decide_true, decide_false, Bool.not_true, Bool.not_false, Bool.not_eq_true, true_or, or_true, or_false, false_or, true_and, and_true, and_false, false_and, or_self, and_self]
    exact q
/-- gone there by a way -/
def B.lled : B → List Bool → Tt → Tt
  | _, [], g => g
  | .oft a, _ :: w, g => .go 1 (a.lled w g) .nil
  | .thn a b, k :: w, g => if k then .two a.plain (b.lled w g) else .two (a.lled w g) b.plain
  | .eith a b, k :: w, g => .sd k (if k then b.lled w g else a.lled w g)
  | .take _ _ a b, k :: w, g => .sd k (if k then b.lled w g else a.lled w g)
  | _, _ :: _, _ => .nil
/-- a way that leads somewhere -/
def B.WayOk : B → List Bool → Prop
  | _, [] => True
  | .oft a, _ :: w => a.WayOk w
  | .thn a b, k :: w => (a.sid b k).WayOk w
  | .eith a b, k :: w => (a.sid b k).WayOk w
  | .take _ _ a b, k :: w => (a.sid b k).WayOk w
  | _, _ :: _ => False
theorem ways_led (b : B) : ∀ (i : Nat) (w : List Bool) (o : B) (g : Tt), b.ways[i]? = some (w, o) → b.led i g = b.lled w g ∧ (∃ a, o = .oft a ∧ a.dp < b.dp) ∧ b.WayOk w ∧ (IsTr o g → IsTr b (b.led i g)) := by
  have spl : ∀ {a b : B} {i : Nat} {p : List Bool × B}, ((a.ways.map fun p => (false :: p.1, p.2)) ++ b.ways.map fun p => (true :: p.1, p.2))[i]? = some p →
      (i < a.ofs ∧ ∃ w o, p = (false :: w, o) ∧ a.ways[i]? = some (w, o)) ∨ (¬ i < a.ofs ∧ ∃ w o, p = (true :: w, o) ∧ b.ways[i - a.ofs]? = some (w, o)) := by
    intro a b i p h
    by_cases hi : i < a.ofs
    · rw [List.getElem?_append_left (by rw [List.length_map, B.ways_len]; exact hi), List.getElem?_map] at h
      cases q : a.ways[i]? with
      | none => rw [q] at h; cases h
      | some r => rw [q] at h; cases h; exact .inl ⟨hi, r.1, r.2, rfl, rfl⟩
    · rw [List.getElem?_append_right (by rw [List.length_map, B.ways_len]; omega), List.getElem?_map, List.length_map, B.ways_len] at h
      cases q : b.ways[i - a.ofs]? with
      | none => rw [q] at h; cases h
      | some r => rw [q] at h; cases h; exact .inr ⟨hi, r.1, r.2, rfl, rfl⟩
  induction b <;> intro i w o g h <;> simp only [B.ways, List.getElem?_nil] at h <;> try (cases h)
  case oft a i1 =>
    cases i with
    | zero =>
      simp only [List.getElem?_cons_zero, Option.some.injEq, Prod.mk.injEq] at h
      obtain ⟨rfl, rfl⟩ := h
      exact ⟨by simp only [B.led, B.lled], ⟨a, rfl, by simp only [B.dp]; omega⟩, trivial, fun h => h⟩
    | succ i =>
      simp only [List.getElem?_cons_succ, List.getElem?_map] at h
      cases q : a.ways[i]? with
      | none => rw [q] at h; cases h
      | some r =>
        rw [q] at h; cases h
        obtain ⟨e1, ⟨c, e2, e3⟩, e4, e5⟩ := i1 i r.1 r.2 g q
        exact ⟨by simp only [B.led, B.lled, e1], ⟨c, e2, by simp only [B.dp]; omega⟩, e4, fun h => ⟨by omega, e5 h, trivial⟩⟩
  case thn a b i1 i2 =>
    rcases spl h with ⟨hi, w', o', e, h⟩ | ⟨hi, w', o', e, h⟩ <;> cases e
    · obtain ⟨e1, ⟨c, e2, e3⟩, e4, e5⟩ := i1 i w' o g h
      exact ⟨by simp only [B.led, B.lled, hi, if_true, e1, Bool.false_eq_true, if_false], ⟨c, e2, by simp only [B.dp]; omega⟩, e4, fun h => by simp only [B.led, hi, if_true]; exact ⟨e5 h, plain_is b⟩⟩
    · obtain ⟨e1, ⟨c, e2, e3⟩, e4, e5⟩ := i2 _ w' o g h
      exact ⟨by simp only [B.led, B.lled, hi, if_true, e1, if_false], ⟨c, e2, by simp only [B.dp]; omega⟩, e4, fun h => by simp only [B.led, hi, if_false]; exact ⟨plain_is a, e5 h⟩⟩
  case eith a b i1 i2 =>
    rcases spl h with ⟨hi, w', o', e, h⟩ | ⟨hi, w', o', e, h⟩ <;> cases e
    · obtain ⟨e1, ⟨c, e2, e3⟩, e4, e5⟩ := i1 i w' o g h
      exact ⟨by simp only [B.led, B.lled, hi, if_true, e1, Bool.false_eq_true, if_false], ⟨c, e2, by simp only [B.dp]; omega⟩, e4, fun h => by simp only [B.led, hi, if_true]; exact e5 h⟩
    · obtain ⟨e1, ⟨c, e2, e3⟩, e4, e5⟩ := i2 _ w' o g h
      exact ⟨by simp only [B.led, B.lled, hi, if_true, e1, if_false], ⟨c, e2, by simp only [B.dp]; omega⟩, e4, fun h => by simp only [B.led, hi, if_false]; exact e5 h⟩
  case take j z a b i1 i2 =>
    rcases spl h with ⟨hi, w', o', e, h⟩ | ⟨hi, w', o', e, h⟩ <;> cases e
    · obtain ⟨e1, ⟨c, e2, e3⟩, e4, e5⟩ := i1 i w' o g h
      exact ⟨by simp only [B.led, B.lled, hi, if_true, e1, Bool.false_eq_true, if_false], ⟨c, e2, by simp only [B.dp]; omega⟩, e4, fun h => by simp only [B.led, hi, if_true]; exact e5 h⟩
    · obtain ⟨e1, ⟨c, e2, e3⟩, e4, e5⟩ := i2 _ w' o g h
      exact ⟨by simp only [B.led, B.lled, hi, if_true, e1, if_false], ⟨c, e2, by simp only [B.dp]; omega⟩, e4, fun h => by simp only [B.led, hi, if_false]; exact e5 h⟩
theorem bI_f : bI false = 0 := rfl
theorem bI_t : bI true = 1 := rfl
theorem l_led_ok (b : B) : ∀ (K : Nat) (w : List Bool) (g : Tt), b.dp + 1 < K → b.WayOk w → callP U G K 34 [b.d, .lst (w.map fun k => .int (bI k)), g.d] = M.pure (.v (b.lled w g).d) := by
  induction b <;> (intro K w g hK hw; refine pure_of fun μ Q q => ?_; obtain ⟨K, rfl⟩ := kS hK; try simp only [B.dp] at hK; rw [c_l_led]; unfold b_l_led; cases w with
    | nil => (simp -dsimp (disch := omega) only [List.map_nil, ev, ofS_inj, String.reduceEq, Int.reduceNeg, decide_true, decide_false, Bool.not_true, Bool.not_false, Bool.not_eq_true, true_or, or_true, or_false, false_or, true_and, and_true, and_false, false_and, or_self, and_self]; simp only [B.lled] at q; exact q)
    | cons k w => ?_)
  case oft a i1 =>
    have i1 := i1 K w g (by omega) hw
    simp -dsimp (disch := omega) only [List.map_cons, B.d, cut_from_1, wp_pure, i1, ev, ofS_inj, String.reduceEq, Int.reduceNeg, decide_true, decide_false, Bool.not_true, Bool.not_false, Bool.not_eq_true, true_or, or_true, or_false, false_or, true_and, and_true, and_false, false_and, or_self, and_self]
    exact q
  case thn a b i1 i2 =>
    cases k with
    | false =>
      have i1 := i1 K w g (by omega) hw
      simp -dsimp (disch := omega) only [List.map_cons, bI_f, bI_t, B.d, cut_from_1, wp_pure, i1, l_plain_ok, Int.reduceSub, Int.reduceEq, ev, ofS_inj, String.reduceEq, Int.reduceNeg, decide_true, decide_false, Bool.not_true, Bool.not_false, Bool.not_eq_true, true_or, or_true, or_false, false_or, true_and, and_true, and_false, false_and, or_self, and_self]
      simp only [B.lled, Bool.false_eq_true, if_false] at q
      exact q
    | true =>
      have i2 := i2 K w g (by omega) hw
      simp -dsimp (disch := omega) only [List.map_cons, bI_f, bI_t, B.d, cut_from_1, wp_pure, i2, l_plain_ok, Int.reduceSub, Int.reduceEq, ev, ofS_inj, String.reduceEq, Int.reduceNeg, decide_true, decide_false, Bool.not_true, Bool.not_false, Bool.not_eq_true, true_or, or_true, or_false, false_or, true_and, and_true, and_false, false_and, or_self, and_self]
      simp only [B.lled, if_true] at q
      exact q
  case eith a b i1 i2 =>
    cases k with
    | false =>
      have i1 := i1 K w g (by omega) hw
      simp -dsimp (disch := omega) only [List.map_cons, bI_f, bI_t, B.d, cut_from_1, wp_pure, i1, l_plain_ok, Int.reduceSub, Int.reduceEq, ev, ofS_inj, String.reduceEq, Int.reduceNeg, decide_true, decide_false, Bool.not_true, Bool.not_false, Bool.not_eq_true, true_or, or_true, or_false, false_or, true_and, and_true, and_false, false_and, or_self, and_self]
      simp only [B.lled, Bool.false_eq_true, if_false] at q
      exact q
    | true =>
      have i2 := i2 K w g (by omega) hw
      simp -dsimp (disch := omega) only [List.map_cons, bI_f, bI_t, B.d, cut_from_1, wp_pure, i2, l_plain_ok, Int.reduceSub, Int.reduceEq, ev, ofS_inj, String.reduceEq, Int.reduceNeg, decide_true, decide_false, Bool.not_true, Bool.not_false, Bool.not_eq_true, true_or, or_true, or_false, false_or, true_and, and_true, and_false, false_and, or_self, and_self]
      simp only [B.lled, if_true] at q
      exact q
  case take j z a b i1 i2 =>
    cases k with
    | false =>
      have i1 := i1 K w g (by omega) hw
      simp -dsimp (disch := omega) only [List.map_cons, bI_f, bI_t, B.d, cut_from_1, wp_pure, i1, l_plain_ok, Int.reduceSub, Int.reduceEq, ev, ofS_inj, String.reduceEq, Int.reduceNeg, decide_true, decide_false, Bool.not_true, Bool.not_false, Bool.not_eq_true, true_or, or_true, or_false, false_or, true_and, and_true, and_false, false_and, or_self, and_self]
      simp only [B.lled, Bool.false_eq_true, if_false] at q
      exact q
    | true =>
      have i2 := i2 K w g (by omega) hw
      simp -dsimp (disch := omega) only [List.map_cons, bI_f, bI_t, B.d, cut_from_1, wp_pure, i2, l_plain_ok, Int.reduceSub, Int.reduceEq, ev, ofS_inj, String.reduceEq, Int.reduceNeg, decide_true, decide_false, Bool.not_true, Bool.not_false, Bool.not_eq_true, true_or, or_true, or_false, false_or, true_and, and_true, and_false, false_and, or_self, and_self]
      simp only [B.lled, if_true] at q
      exact q
  all_goals exact hw.elim
/-! ### traces alike -/
/-- plain data: numbers and tuples -/
inductive Plt : Nat → D → Prop
  | int {k : Nat} (i : Int) : Plt k (.int i)
  | tup {k : Nat} {ds : List D} (hl : ds.length ≤ 1000000) (h : ∀ d ∈ ds, Plt k d) : Plt (k + 1) (.tup ds)
theorem Plt.mono {k k' : Nat} {d : D} (h : Plt k d) (hk : k ≤ k') : Plt k' d := by
  induction h generalizing k' with
  | int i => exact .int i
  | tup hl h ih =>
    obtain ⟨m, rfl⟩ : ∃ m, k' = m + 1 := ⟨k' - 1, by omega⟩
    exact .tup hl fun d hd => ih d hd (by omega)
def Tt.dh : Tt → Nat
  | .nil => 1
  | .two a b => max a.dh b.dh + 1
  | .sd _ t => t.dh + 1
  | .go _ t r => max (t.dh + 2) r.dh
theorem Tt.dh_pos (t : Tt) : 1 ≤ t.dh := by induction t <;> simp only [Tt.dh] <;> omega
theorem Tt.its_len (t : Tt) : t.its.length ≤ t.gc + 2 := by
  induction t <;> simp only [Tt.its, Tt.gc, List.length_cons, List.length_nil] <;> omega
theorem Tt.its_pl (t : Tt) : t.gc ≤ 900000 → ∀ d ∈ t.its, Plt (t.dh - 1) d := by
  have tp : ∀ (t : Tt), t.gc ≤ 900000 → (∀ d ∈ t.its, Plt (t.dh - 1) d) → Plt t.dh t.d := fun t h1 h2 => by
    have := t.dh_pos
    have h3 := t.its_len
    obtain ⟨m, e⟩ : ∃ m, t.dh = m + 1 := ⟨t.dh - 1, by omega⟩
    rw [e] at h2 ⊢
    exact .tup (by omega) h2
  induction t <;> intro hg d hd <;> simp only [Tt.its, List.mem_cons, List.not_mem_nil, or_false] at hd <;> simp only [Tt.gc] at hg <;> simp only [Tt.dh]
  case two a b i1 i2 =>
    rcases hd with rfl | rfl
    · exact (tp a (by omega) (i1 (by omega))).mono (by omega)
    · exact (tp b (by omega) (i2 (by omega))).mono (by omega)
  case sd k t i1 =>
    rcases hd with rfl | rfl
    · exact .int _
    · exact (tp t (by omega) (i1 (by omega))).mono (by omega)
  case go m t r i1 i2 =>
    rcases hd with rfl | hd
    · have : Plt (t.dh + 1) (.tup [.int m, t.d]) := .tup (by simp) fun d hd => by
        simp only [List.mem_cons, List.not_mem_nil, or_false] at hd
        rcases hd with rfl | rfl
        · exact .int _
        · exact tp t (by omega) (i1 (by omega))
      exact this.mono (by omega)
    · exact (i2 (by omega) d hd).mono (by omega)
theorem Tt.pl (t : Tt) (h : t.gc ≤ 900000) : Plt t.dh t.d := by
  have := t.dh_pos
  have h3 := t.its_len
  have h2 := t.its_pl h
  obtain ⟨m, e⟩ : ∃ m, t.dh = m + 1 := ⟨t.dh - 1, by omega⟩
  rw [e] at h2 ⊢
  exact .tup (by omega) h2
theorem tr_dh : ∀ (t : Tt) (b : B), IsTr b t → t.dh ≤ 2 * b.dp + 1 := by
  intro t
  induction t <;> intro b h
  case nil => simp only [Tt.dh]; omega
  case two s t i1 i2 =>
    cases b <;> simp only [IsTr] at h
    case thn a b =>
      have := i1 a h.1
      have := i2 b h.2
      simp only [Tt.dh, B.dp]; omega
  case sd k t i1 =>
    cases b <;> simp only [IsTr] at h
    case eith a b =>
      have := i1 _ h
      cases k <;> simp only [B.sid, Bool.false_eq_true, if_true, if_false] at this <;> simp only [Tt.dh, B.dp] <;> omega
    case take j z a b =>
      have := i1 _ h
      cases k <;> simp only [B.sid, Bool.false_eq_true, if_true, if_false] at this <;> simp only [Tt.dh, B.dp] <;> omega
  case go m t r i1 i2 =>
    cases b <;> simp only [IsTr] at h
    case oft a =>
      have := i1 a h.2.1
      have := i2 (.oft a) h.2.2
      simp only [Tt.dh, B.dp] at this ⊢; omega
theorem tr_pl {b : B} {t : Tt} (h : IsTr b t) (hg : t.gc ≤ 900000) : Plt (2 * b.dp + 1) t.d := (t.pl hg).mono (tr_dh t b h)
theorem alike2_ok : ∀ (k : Nat) (d : D), Plt k d → ∀ K, k < K → callP U G K 35 [d, d] = M.pure (.v (.bl true)) := by
  intro k
  induction k with
  | zero =>
    intro d hp K hK
    refine pure_of fun μ Q q => ?_
    obtain ⟨K, rfl⟩ := kS hK
    rw [c_l_alike_2]; unfold b_l_alike_2
    cases hp with
    | int i => simp -dsimp (disch := omega) only [ev, ofS_inj, String.reduceEq, Int.reduceNeg, decide_true, decide_false, Bool.not_true, Bool.not_false, Bool.not_eq_true, true_or, or_true, or_false, false_or, true_and, and_true, and_false, false_and, or_self, and_self]; exact q
  | succ k ih =>
    intro d hp K hK
    refine pure_of fun μ Q q => ?_
    obtain ⟨K, rfl⟩ := kS hK
    rw [c_l_alike_2]; unfold b_l_alike_2
    cases hp with
    | int i => simp -dsimp (disch := omega) only [ev, ofS_inj, String.reduceEq, Int.reduceNeg, decide_true, decide_false, Bool.not_true, Bool.not_false, Bool.not_eq_true, true_or, or_true, or_false, false_or, true_and, and_true, and_false, false_and, or_self, and_self]; exact q
    | tup hl h =>
      simp -dsimp (disch := omega) only [ev, ofS_inj, String.reduceEq, Int.reduceNeg, decide_true, decide_false, Bool.not_true, Bool.not_false, Bool.not_eq_true, true_or, or_true, or_false, false_or, true_and, and_true, and_false, false_and, or_self, and_self]
      rw [zip_same, cmp_map (h := fun _ => .bl true) hl fun a ha R hR => by
        simp -dsimp (disch := omega) only [ih a (h a ha) K (by omega), wp_pure, ev, ofS_inj, String.reduceEq, Int.reduceNeg, decide_true, decide_false, Bool.not_true, Bool.not_false, Bool.not_eq_true, true_or, or_true, or_false, false_or, true_and, and_true, and_false, false_and, or_self, and_self]
        exact hR]
      simp -dsimp (disch := omega) only [ev, ofS_inj, String.reduceEq, Int.reduceNeg, decide_true, decide_false, Bool.not_true, Bool.not_false, Bool.not_eq_true, true_or, or_true, or_false, false_or, true_and, and_true, and_false, false_and, or_self, and_self]
      rw [all_tt]; exact q
theorem all2_ex {α : Type} {f : α → D} {P : α → Prop} {ds : List D} {os : List (Option D)} (h : All2 (fun _ o => ∃ a, o = some (f a) ∧ P a) ds os) : ∃ as : List α, os.filterMap id = as.map f ∧ as.length = ds.length ∧ ∀ a ∈ as, P a := by
  induction h with
  | nil => exact ⟨[], rfl, rfl, fun a ha => absurd ha List.not_mem_nil⟩
  | cons h _ ih =>
    obtain ⟨a, rfl, ha⟩ := h
    obtain ⟨as, e1, e2, e3⟩ := ih
    exact ⟨a :: as, by simp [e1], by simp [e2], fun b hb => (List.mem_cons.mp hb).elim (fun e => by rw [e]; exact ha) (e3 b)⟩
theorem plain_gc (b : B) : b.plain.gc = 0 := by
  induction b <;> simp only [B.plain, Tt.gc, *]
theorem led_gc (b : B) : ∀ (i : Nat) (g : Tt), (b.led i g).gc ≤ g.gc + b.dp := by
  induction b <;> intro i g
  case oft a i1 =>
    cases i with
    | zero => simp only [B.led]; omega
    | succ i => have := i1 i g; simp only [B.led, Tt.gc, B.dp]; omega
  case thn a b i1 i2 =>
    have h1 := i1 i g
    have h2 := i2 (i - a.ofs) g
    simp only [B.led]
    split <;> simp only [Tt.gc, plain_gc, B.dp] <;> omega
  case eith a b i1 i2 =>
    have h1 := i1 i g
    have h2 := i2 (i - a.ofs) g
    simp only [B.led]
    split <;> simp only [Tt.gc, B.dp] <;> omega
  case take j z a b i1 i2 =>
    have h1 := i1 i g
    have h2 := i2 (i - a.ofs) g
    simp only [B.led]
    split <;> simp only [Tt.gc, B.dp] <;> omega
  all_goals (cases i <;> simp only [B.led, Tt.gc] <;> omega)
end J
/-! S10: what is a trace of a body. -/
namespace J
open PySem L2
def oneI : D → Bool
  | .int i => decide (1 ≤ i)
  | _ => false
def gchk (f : D → Bool) : D → Bool
  | .tup [m, t] => oneI m && f t
  | _ => false
def sdc2 (f g : D → Bool) : D → D → Bool
  | .int k, t => if k = 0 then f t else if k = 1 then g t else false
  | _, _ => false
def sdchk (f g : D → Bool) : D → Bool
  | .tup [s, t] => sdc2 f g s t
  | _ => false
def thchk (f g : D → Bool) : D → Bool
  | .tup [s, t] => f s && g t
  | _ => false
def ofchk (f : D → Bool) : D → Bool
  | .tup ds => ds.all (gchk f)
  | _ => false
def nichk : D → Bool
  | .tup [] => true
  | _ => false
def tchk : B → D → Bool
  | .oft a => ofchk (tchk a)
  | .thn a b => thchk (tchk a) (tchk b)
  | .eith a b => sdchk (tchk a) (tchk b)
  | .take _ _ a b => sdchk (tchk a) (tchk b)
  | _ => nichk
theorem cmp_mapD {C : Calls} {g : GT} {ρ : Env} {μ : Sto} {Q : RV → Sto → Prop} {ds : List D} {own : List Nat} {t : T} {e : J.E} {h : D → D} (hl : ds.length ≤ 1000000) (hf : ∀ a ∈ ds, ∀ (R : Option D → Sto → Prop), R (some (h a)) μ → Ci C g own t none e ρ a μ R) : Cmp C g own t none e ds ρ μ Q ↔ Q (.fr (ds.map h)) μ := by
  have := cmp_map (C := C) (g := g) (ρ := ρ) (μ := μ) (Q := Q) (enc := fun d => d) (as := ds) (own := own) (t := t) (e := e) (h := h) hl hf
  rw [List.map_id'] at this
  exact this
theorem ln_1 {x : D} : decide ((([x] : List D).length : Int) = 2) = false := rfl
theorem ln_3 {x y z : D} {r : List D} : decide (((x :: y :: z :: r : List D).length : Int) = 2) = false := by rw [decide_eq_false]; simp only [List.length_cons]; omega
theorem Pl.up {k m : Nat} {d : D} (h : Pl k d) (hm : k ≤ m) : Pl m d := by
  induction hm with
  | refl => exact h
  | step _ ih => exact ih.mono
theorem from1_ok {k : Nat} {d : D} (hp : Pl k d) {K : Nat} (hK : 0 < K) : callP U G K 18 [d] = M.pure (.v (.bl (oneI d))) := by
  refine pure_of fun μ Q q => ?_
  obtain ⟨K, rfl⟩ := kS hK
  rw [c_is_number_from_one]; unfold b_is_number_from_one
  cases hp <;> (simp -dsimp (disch := omega) only [ev, ofS_inj, String.reduceEq, Int.reduceNeg, decide_true, decide_false, Bool.not_true, Bool.not_false, Bool.not_eq_true, true_or, or_true, or_false, false_or, true_and, and_true, and_false, false_and, or_self, and_self]; try exact q)
theorem going_ok {a : B} {K : Nat} (hi : ∀ k d, Pl k d → callP U G K 20 [a.d, d] = M.pure (.v (.bl (tchk a d)))) (hK : 0 < K) {k : Nat} {g : D} (hp : Pl k g) : callP U G (K + 1) 19 [a.d, g] = M.pure (.v (.bl (gchk (tchk a) g))) := by
  refine pure_of fun μ Q q => ?_
  rw [c_is_going]; unfold b_is_going
  cases hp with
  | int i => simp -dsimp (disch := omega) only [ev, ofS_inj, String.reduceEq, Int.reduceNeg, decide_true, decide_false, Bool.not_true, Bool.not_false, Bool.not_eq_true, true_or, or_true, or_false, false_or, true_and, and_true, and_false, false_and, or_self, and_self]; exact q
  | str h => simp -dsimp (disch := omega) only [ev, ofS_inj, String.reduceEq, Int.reduceNeg, decide_true, decide_false, Bool.not_true, Bool.not_false, Bool.not_eq_true, true_or, or_true, or_false, false_or, true_and, and_true, and_false, false_and, or_self, and_self]; exact q
  | tup hl h =>
    rename_i k ds
    match ds, h with
    | [], _ => simp -dsimp (disch := omega) only [ln_nil2, ev, ofS_inj, String.reduceEq, Int.reduceNeg, decide_true, decide_false, Bool.not_true, Bool.not_false, Bool.not_eq_true, true_or, or_true, or_false, false_or, true_and, and_true, and_false, false_and, or_self, and_self]; exact q
    | [x], _ => simp -dsimp (disch := omega) only [ln_1, ev, ofS_inj, String.reduceEq, Int.reduceNeg, decide_true, decide_false, Bool.not_true, Bool.not_false, Bool.not_eq_true, true_or, or_true, or_false, false_or, true_and, and_true, and_false, false_and, or_self, and_self]; exact q
    | x :: y :: z :: r, _ => simp -dsimp (disch := omega) only [ln_3, ev, ofS_inj, String.reduceEq, Int.reduceNeg, decide_true, decide_false, Bool.not_true, Bool.not_false, Bool.not_eq_true, true_or, or_true, or_false, false_or, true_and, and_true, and_false, false_and, or_self, and_self]; exact q
    | [x, y], h =>
      have hx := h x (by simp)
      have hy := h y (by simp)
      simp -dsimp (disch := omega) only [ln_2, from1_ok hx hK, hi _ _ hy, wp_pure, ev, ofS_inj, String.reduceEq, Int.reduceNeg, decide_true, decide_false, Bool.not_true, Bool.not_false, Bool.not_eq_true, true_or, or_true, or_false, false_or, true_and, and_true, and_false, false_and, or_self, and_self]
      have q : Q (.v (.bl (oneI x && tchk a y))) μ := q
      cases e : oneI x with
      | true => simp -dsimp (disch := omega) only [hi _ _ hy, wp_pure, ev, ofS_inj, String.reduceEq, Int.reduceNeg, decide_true, decide_false, Bool.not_true, Bool.not_false, Bool.not_eq_true, true_or, or_true, or_false, false_or, true_and, and_true, and_false, false_and, or_self, and_self]; rw [e] at q; exact q
      | false => simp -dsimp (disch := omega) only [ev, ofS_inj, String.reduceEq, Int.reduceNeg, decide_true, decide_false, Bool.not_true, Bool.not_false, Bool.not_eq_true, true_or, or_true, or_false, false_or, true_and, and_true, and_false, false_and, or_self, and_self]; rw [e] at q; exact q
theorem istrace_ok (b : B) : ∀ K, 2 * b.dp < K → ∀ k d, Pl k d → callP U G K 20 [b.d, d] = M.pure (.v (.bl (tchk b d))) := by
  induction b <;> (intro K hK k d hp; refine pure_of fun μ Q q => ?_; obtain ⟨K, rfl⟩ := kS hK; try simp only [B.dp] at hK; rw [c_is_trace]; unfold b_is_trace)
  case oft a i1 =>
    cases hp with
    | int i => simp -dsimp (disch := omega) only [ev, ofS_inj, String.reduceEq, Int.reduceNeg, decide_true, decide_false, Bool.not_true, Bool.not_false, Bool.not_eq_true, true_or, or_true, or_false, false_or, true_and, and_true, and_false, false_and, or_self, and_self]; exact q
    | str h => simp -dsimp (disch := omega) only [ev, ofS_inj, String.reduceEq, Int.reduceNeg, decide_true, decide_false, Bool.not_true, Bool.not_false, Bool.not_eq_true, true_or, or_true, or_false, false_or, true_and, and_true, and_false, false_and, or_self, and_self]; exact q
    | tup hl h =>
      obtain ⟨K, rfl⟩ := kS (show 0 < K by omega)
      simp -dsimp (disch := omega) only [B.d, ev, ofS_inj, String.reduceEq, Int.reduceNeg, decide_true, decide_false, Bool.not_true, Bool.not_false, Bool.not_eq_true, true_or, or_true, or_false, false_or, true_and, and_true, and_false, false_and, or_self, and_self]
      rw [cmp_mapD (h := fun g => .bl (gchk (tchk a) g)) hl fun g hg R hR => by
        simp -dsimp (disch := omega) only [going_ok (i1 K (by omega)) (by omega) (h g hg), wp_pure, ev, ofS_inj, String.reduceEq, Int.reduceNeg, decide_true, decide_false, Bool.not_true, Bool.not_false, Bool.not_eq_true, true_or, or_true, or_false, false_or, true_and, and_true, and_false, false_and, or_self, and_self]
        exact hR]
      simp -dsimp (disch := omega) only [ev, ofS_inj, String.reduceEq, Int.reduceNeg, decide_true, decide_false, Bool.not_true, Bool.not_false, Bool.not_eq_true, true_or, or_true, or_false, false_or, true_and, and_true, and_false, false_and, or_self, and_self]
      exact q
  case thn a b i1 i2 =>
    cases hp with
    | int i => simp -dsimp (disch := omega) only [ev, ofS_inj, String.reduceEq, Int.reduceNeg, decide_true, decide_false, Bool.not_true, Bool.not_false, Bool.not_eq_true, true_or, or_true, or_false, false_or, true_and, and_true, and_false, false_and, or_self, and_self]; exact q
    | str h => simp -dsimp (disch := omega) only [ev, ofS_inj, String.reduceEq, Int.reduceNeg, decide_true, decide_false, Bool.not_true, Bool.not_false, Bool.not_eq_true, true_or, or_true, or_false, false_or, true_and, and_true, and_false, false_and, or_self, and_self]; exact q
    | tup hl h =>
      rename_i k ds
      match ds, h with
      | [], _ => simp -dsimp (disch := omega) only [B.d, ln_nil2, ev, ofS_inj, String.reduceEq, Int.reduceNeg, decide_true, decide_false, Bool.not_true, Bool.not_false, Bool.not_eq_true, true_or, or_true, or_false, false_or, true_and, and_true, and_false, false_and, or_self, and_self]; exact q
      | [x], _ => simp -dsimp (disch := omega) only [B.d, ln_1, ev, ofS_inj, String.reduceEq, Int.reduceNeg, decide_true, decide_false, Bool.not_true, Bool.not_false, Bool.not_eq_true, true_or, or_true, or_false, false_or, true_and, and_true, and_false, false_and, or_self, and_self]; exact q
      | x :: y :: z :: r, _ => simp -dsimp (disch := omega) only [B.d, ln_3, ev, ofS_inj, String.reduceEq, Int.reduceNeg, decide_true, decide_false, Bool.not_true, Bool.not_false, Bool.not_eq_true, true_or, or_true, or_false, false_or, true_and, and_true, and_false, false_and, or_self, and_self]; exact q
      | [x, y], h =>
        have q : Q (.v (.bl (tchk a x && tchk b y))) μ := q
        simp -dsimp (disch := omega) only [B.d, ln_2, i1 K (by omega) _ _ (h x (by simp)), wp_pure, ev, ofS_inj, String.reduceEq, Int.reduceNeg, decide_true, decide_false, Bool.not_true, Bool.not_false, Bool.not_eq_true, true_or, or_true, or_false, false_or, true_and, and_true, and_false, false_and, or_self, and_self]
        cases e : tchk a x with
        | true => simp -dsimp (disch := omega) only [i2 K (by omega) _ _ (h y (by simp)), wp_pure, ev, ofS_inj, String.reduceEq, Int.reduceNeg, decide_true, decide_false, Bool.not_true, Bool.not_false, Bool.not_eq_true, true_or, or_true, or_false, false_or, true_and, and_true, and_false, false_and, or_self, and_self]; rw [e] at q; exact q
        | false => simp -dsimp (disch := omega) only [ev, ofS_inj, String.reduceEq, Int.reduceNeg, decide_true, decide_false, Bool.not_true, Bool.not_false, Bool.not_eq_true, true_or, or_true, or_false, false_or, true_and, and_true, and_false, false_and, or_self, and_self]; rw [e] at q; exact q
  case eith a b i1 i2 =>
    cases hp with
    | int i => simp -dsimp (disch := omega) only [ev, ofS_inj, String.reduceEq, Int.reduceNeg, decide_true, decide_false, Bool.not_true, Bool.not_false, Bool.not_eq_true, true_or, or_true, or_false, false_or, true_and, and_true, and_false, false_and, or_self, and_self]; exact q
    | str h => simp -dsimp (disch := omega) only [ev, ofS_inj, String.reduceEq, Int.reduceNeg, decide_true, decide_false, Bool.not_true, Bool.not_false, Bool.not_eq_true, true_or, or_true, or_false, false_or, true_and, and_true, and_false, false_and, or_self, and_self]; exact q
    | tup hl h =>
      rename_i k ds
      match ds, h with
      | [], _ => simp -dsimp (disch := omega) only [B.d, ln_nil2, ev, ofS_inj, String.reduceEq, Int.reduceNeg, decide_true, decide_false, Bool.not_true, Bool.not_false, Bool.not_eq_true, true_or, or_true, or_false, false_or, true_and, and_true, and_false, false_and, or_self, and_self]; exact q
      | [x], _ => simp -dsimp (disch := omega) only [B.d, ln_1, ev, ofS_inj, String.reduceEq, Int.reduceNeg, decide_true, decide_false, Bool.not_true, Bool.not_false, Bool.not_eq_true, true_or, or_true, or_false, false_or, true_and, and_true, and_false, false_and, or_self, and_self]; exact q
      | x :: y :: z :: r, _ => simp -dsimp (disch := omega) only [B.d, ln_3, ev, ofS_inj, String.reduceEq, Int.reduceNeg, decide_true, decide_false, Bool.not_true, Bool.not_false, Bool.not_eq_true, true_or, or_true, or_false, false_or, true_and, and_true, and_false, false_and, or_self, and_self]; exact q
      | [x, y], h =>
        have hx := h x (by simp)
        have hy := h y (by simp)
        simp -dsimp (disch := omega) only [B.d, ln_2, ev, ofS_inj, String.reduceEq, Int.reduceNeg, decide_true, decide_false, Bool.not_true, Bool.not_false, Bool.not_eq_true, true_or, or_true, or_false, false_or, true_and, and_true, and_false, false_and, or_self, and_self]
        cases hx with
        | str _ => simp -dsimp (disch := omega) only [ev, ofS_inj, String.reduceEq, Int.reduceNeg, decide_true, decide_false, Bool.not_true, Bool.not_false, Bool.not_eq_true, true_or, or_true, or_false, false_or, true_and, and_true, and_false, false_and, or_self, and_self]; exact q
        | tup _ _ => simp -dsimp (disch := omega) only [ev, ofS_inj, String.reduceEq, Int.reduceNeg, decide_true, decide_false, Bool.not_true, Bool.not_false, Bool.not_eq_true, true_or, or_true, or_false, false_or, true_and, and_true, and_false, false_and, or_self, and_self]; exact q
        | int i =>
          simp -dsimp (disch := omega) only [ev, ofS_inj, String.reduceEq, Int.reduceNeg, decide_true, decide_false, Bool.not_true, Bool.not_false, Bool.not_eq_true, true_or, or_true, or_false, false_or, true_and, and_true, and_false, false_and, or_self, and_self]
          have q : Q (.v (.bl (if i = 0 then tchk a y else if i = 1 then tchk b y else false))) μ := q
          refine br_d (fun c => ?_) fun c => ?_
          · simp -dsimp (disch := omega) only [ev, ofS_inj, String.reduceEq, Int.reduceNeg, decide_true, decide_false, Bool.not_true, Bool.not_false, Bool.not_eq_true, true_or, or_true, or_false, false_or, true_and, and_true, and_false, false_and, or_self, and_self]; rw [if_neg (by omega), if_neg (by omega)] at q; exact q
          simp -dsimp (disch := omega) only [ev, ofS_inj, String.reduceEq, Int.reduceNeg, decide_true, decide_false, Bool.not_true, Bool.not_false, Bool.not_eq_true, true_or, or_true, or_false, false_or, true_and, and_true, and_false, false_and, or_self, and_self]
          refine br_d (fun c1 => ?_) fun c1 => ?_
          · simp -dsimp (disch := omega) only [ev, ofS_inj, String.reduceEq, Int.reduceNeg, decide_true, decide_false, Bool.not_true, Bool.not_false, Bool.not_eq_true, true_or, or_true, or_false, false_or, true_and, and_true, and_false, false_and, or_self, and_self]; rw [if_neg (by omega), if_neg (by omega)] at q; exact q
          have hi : i = 0 ∨ i = 1 := by omega
          rcases hi with rfl | rfl
          · simp -dsimp (disch := omega) only [Int.reduceSub, i1 K (by omega) _ _ hy, wp_pure, ev, ofS_inj, String.reduceEq, Int.reduceNeg, decide_true, decide_false, Bool.not_true, Bool.not_false, Bool.not_eq_true, true_or, or_true, or_false, false_or, true_and, and_true, and_false, false_and, or_self, and_self]; exact q
          · simp -dsimp (disch := omega) only [Int.reduceSub, i2 K (by omega) _ _ hy, wp_pure, ev, ofS_inj, String.reduceEq, Int.reduceNeg, decide_true, decide_false, Bool.not_true, Bool.not_false, Bool.not_eq_true, true_or, or_true, or_false, false_or, true_and, and_true, and_false, false_and, or_self, and_self]; exact q
  case take j z a b i1 i2 =>
    cases hp with
    | int i => simp -dsimp (disch := omega) only [ev, ofS_inj, String.reduceEq, Int.reduceNeg, decide_true, decide_false, Bool.not_true, Bool.not_false, Bool.not_eq_true, true_or, or_true, or_false, false_or, true_and, and_true, and_false, false_and, or_self, and_self]; exact q
    | str h => simp -dsimp (disch := omega) only [ev, ofS_inj, String.reduceEq, Int.reduceNeg, decide_true, decide_false, Bool.not_true, Bool.not_false, Bool.not_eq_true, true_or, or_true, or_false, false_or, true_and, and_true, and_false, false_and, or_self, and_self]; exact q
    | tup hl h =>
      rename_i k ds
      match ds, h with
      | [], _ => simp -dsimp (disch := omega) only [B.d, ln_nil2, ev, ofS_inj, String.reduceEq, Int.reduceNeg, decide_true, decide_false, Bool.not_true, Bool.not_false, Bool.not_eq_true, true_or, or_true, or_false, false_or, true_and, and_true, and_false, false_and, or_self, and_self]; exact q
      | [x], _ => simp -dsimp (disch := omega) only [B.d, ln_1, ev, ofS_inj, String.reduceEq, Int.reduceNeg, decide_true, decide_false, Bool.not_true, Bool.not_false, Bool.not_eq_true, true_or, or_true, or_false, false_or, true_and, and_true, and_false, false_and, or_self, and_self]; exact q
      | x :: y :: z :: r, _ => simp -dsimp (disch := omega) only [B.d, ln_3, ev, ofS_inj, String.reduceEq, Int.reduceNeg, decide_true, decide_false, Bool.not_true, Bool.not_false, Bool.not_eq_true, true_or, or_true, or_false, false_or, true_and, and_true, and_false, false_and, or_self, and_self]; exact q
      | [x, y], h =>
        have hx := h x (by simp)
        have hy := h y (by simp)
        simp -dsimp (disch := omega) only [B.d, ln_2, ev, ofS_inj, String.reduceEq, Int.reduceNeg, decide_true, decide_false, Bool.not_true, Bool.not_false, Bool.not_eq_true, true_or, or_true, or_false, false_or, true_and, and_true, and_false, false_and, or_self, and_self]
        cases hx with
        | str _ => simp -dsimp (disch := omega) only [ev, ofS_inj, String.reduceEq, Int.reduceNeg, decide_true, decide_false, Bool.not_true, Bool.not_false, Bool.not_eq_true, true_or, or_true, or_false, false_or, true_and, and_true, and_false, false_and, or_self, and_self]; exact q
        | tup _ _ => simp -dsimp (disch := omega) only [ev, ofS_inj, String.reduceEq, Int.reduceNeg, decide_true, decide_false, Bool.not_true, Bool.not_false, Bool.not_eq_true, true_or, or_true, or_false, false_or, true_and, and_true, and_false, false_and, or_self, and_self]; exact q
        | int i =>
          simp -dsimp (disch := omega) only [ev, ofS_inj, String.reduceEq, Int.reduceNeg, decide_true, decide_false, Bool.not_true, Bool.not_false, Bool.not_eq_true, true_or, or_true, or_false, false_or, true_and, and_true, and_false, false_and, or_self, and_self]
          have q : Q (.v (.bl (if i = 0 then tchk a y else if i = 1 then tchk b y else false))) μ := q
          refine br_d (fun c => ?_) fun c => ?_
          · simp -dsimp (disch := omega) only [ev, ofS_inj, String.reduceEq, Int.reduceNeg, decide_true, decide_false, Bool.not_true, Bool.not_false, Bool.not_eq_true, true_or, or_true, or_false, false_or, true_and, and_true, and_false, false_and, or_self, and_self]; rw [if_neg (by omega), if_neg (by omega)] at q; exact q
          simp -dsimp (disch := omega) only [ev, ofS_inj, String.reduceEq, Int.reduceNeg, decide_true, decide_false, Bool.not_true, Bool.not_false, Bool.not_eq_true, true_or, or_true, or_false, false_or, true_and, and_true, and_false, false_and, or_self, and_self]
          refine br_d (fun c1 => ?_) fun c1 => ?_
          · simp -dsimp (disch := omega) only [ev, ofS_inj, String.reduceEq, Int.reduceNeg, decide_true, decide_false, Bool.not_true, Bool.not_false, Bool.not_eq_true, true_or, or_true, or_false, false_or, true_and, and_true, and_false, false_and, or_self, and_self]; rw [if_neg (by omega), if_neg (by omega)] at q; exact q
          have hi : i = 0 ∨ i = 1 := by omega
          rcases hi with rfl | rfl
          · simp -dsimp (disch := omega) only [Int.reduceSub, i1 K (by omega) _ _ hy, wp_pure, ev, ofS_inj, String.reduceEq, Int.reduceNeg, decide_true, decide_false, Bool.not_true, Bool.not_false, Bool.not_eq_true, true_or, or_true, or_false, false_or, true_and, and_true, and_false, false_and, or_self, and_self]; exact q
          · simp -dsimp (disch := omega) only [Int.reduceSub, i2 K (by omega) _ _ hy, wp_pure, ev, ofS_inj, String.reduceEq, Int.reduceNeg, decide_true, decide_false, Bool.not_true, Bool.not_false, Bool.not_eq_true, true_or, or_true, or_false, false_or, true_and, and_true, and_false, false_and, or_self, and_self]; exact q
  all_goals
    cases hp with
    | int i => simp -dsimp (disch := omega) only [ev, ofS_inj, String.reduceEq, Int.reduceNeg, decide_true, decide_false, Bool.not_true, Bool.not_false, Bool.not_eq_true, true_or, or_true, or_false, false_or, true_and, and_true, and_false, false_and, or_self, and_self]; exact q
    | str h => simp -dsimp (disch := omega) only [ev, ofS_inj, String.reduceEq, Int.reduceNeg, decide_true, decide_false, Bool.not_true, Bool.not_false, Bool.not_eq_true, true_or, or_true, or_false, false_or, true_and, and_true, and_false, false_and, or_self, and_self]; exact q
    | tup hl h =>
      rename_i k ds
      match ds, h with
      | [], _ => simp -dsimp (disch := omega) only [B.d, ln_nil, ev, ofS_inj, String.reduceEq, Int.reduceNeg, decide_true, decide_false, Bool.not_true, Bool.not_false, Bool.not_eq_true, true_or, or_true, or_false, false_or, true_and, and_true, and_false, false_and, or_self, and_self]; exact q
      | x :: r, _ => simp -dsimp (disch := omega) only [B.d, ln_cons, ev, ofS_inj, String.reduceEq, Int.reduceNeg, decide_true, decide_false, Bool.not_true, Bool.not_false, Bool.not_eq_true, true_or, or_true, or_false, false_or, true_and, and_true, and_false, false_and, or_self, and_self]; exact q
theorem Plt.pl {k : Nat} {d : D} (h : Plt k d) : Pl k d := by
  induction h with
  | int i => exact .int i
  | tup hl _ ih => exact .tup hl ih
theorem istr_chk : ∀ (t : Tt) (b : B), IsTr b t → tchk b t.d = true := by
  intro t
  induction t <;> intro b h
  case nil => cases b <;> first | rfl | exact h.elim
  case two s t i1 i2 =>
    cases b <;> simp only [IsTr] at h
    case thn a b =>
      show (tchk a s.d && tchk b t.d) = true
      rw [i1 a h.1, i2 b h.2]; rfl
  case sd k t i1 =>
    cases b <;> simp only [IsTr] at h
    case eith a b =>
      show sdc2 (tchk a) (tchk b) (.int (bI k)) t.d = true
      cases k
      · exact i1 a h
      · exact i1 b h
    case take j z a b =>
      show sdc2 (tchk a) (tchk b) (.int (bI k)) t.d = true
      cases k
      · exact i1 a h
      · exact i1 b h
  case go m t r i1 i2 =>
    cases b <;> simp only [IsTr] at h
    case oft a =>
      have h2 := i2 (.oft a) h.2.2
      show (List.all (.tup [.int m, t.d] :: r.its) (gchk (tchk a))) = true
      rw [List.all_cons]
      have e1 : gchk (tchk a) (.tup [.int m, t.d]) = true := by
        show (decide (1 ≤ m) && tchk a t.d) = true
        rw [i1 a h.2.1, decide_eq_true h.1]; rfl
      rw [e1]
      exact h2
/-- a trace is one -/
theorem istr_ok {b : B} {t : Tt} (h : IsTr b t) (hg : t.gc ≤ 900000) {K : Nat} (hK : 2 * b.dp < K) : callP U G K 20 [b.d, t.d] = M.pure (.v (.bl true)) := by
  rw [istrace_ok b K hK _ _ (tr_pl h hg).pl, istr_chk t b h]
end J
/-! S11: plain data compared; the deeds of a trace. -/
namespace J
open PySem L2
theorem pl_lay : ∀ {k : Nat} {d : D}, Pl k d → d.py.canLay0 = true ∧ d.py.depth ≤ k := by
  intro k d h
  induction h with
  | int i => exact ⟨rfl, Nat.zero_le _⟩
  | str h =>
    refine ⟨?_, Nat.zero_le _⟩
    simp only [D.py, PyData.canLay0]; exact h
  | @tup k ds hl h ih =>
    simp only [D.py, PyData.canLay0, PyData.depth]
    have key : ∀ ds : List D, (∀ d ∈ ds, d.py.canLay0 = true ∧ d.py.depth ≤ k) → PyData.canLayAll0 (pys ds) = true ∧ PyData.depthAll (pys ds) ≤ k := by
      intro ds
      induction ds with
      | nil => intro _; exact ⟨rfl, Nat.zero_le _⟩
      | cons a r ih =>
        intro hh
        obtain ⟨h1, h2⟩ := hh a List.mem_cons_self
        obtain ⟨h3, h4⟩ := ih fun d hd => hh d (List.mem_cons_of_mem _ hd)
        simp only [pys, PyData.canLayAll0, PyData.depthAll, h1, h3]
        exact ⟨rfl, by omega⟩
    obtain ⟨h1, h2⟩ := key ds ih
    exact ⟨h1, by omega⟩
theorem shp_pl {k : Nat} {d : D} (h : Pl k d) (hk : k ≤ 64) : shp d = true := by
  obtain ⟨h1, h2⟩ := pl_lay h
  unfold shp SeqAt.shaped
  rw [h1, decide_eq_true (by omega)]; rfl
theorem eqD_self {k : Nat} {d : D} (h : Pl k d) : eqD d d = true := by
  unfold eqD
  induction h with
  | int i => simp [D.py, PyData.eqv]
  | str h => simp [D.py, PyData.eqv]
  | @tup k ds hl h ih =>
    simp only [D.py, PyData.eqv]
    have key : ∀ ds : List D, (∀ d ∈ ds, PyData.eqv d.py d.py = true) → PyData.eqvAll (pys ds) (pys ds) = true := by
      intro ds
      induction ds with
      | nil => intro _; rfl
      | cons a r ih =>
        intro hh
        simp only [pys, PyData.eqvAll, hh a List.mem_cons_self, ih fun d hd => hh d (List.mem_cons_of_mem _ hd)]; rfl
    exact key ds ih
theorem cm_nepl {k : Nat} {d : D} {kb : Bool → Prop} (h : Pl k d) (hk : k ≤ 64) : Cm .ne d d kb ↔ kb false := by
  rw [cm_ne (shp_pl h hk) (shp_pl h hk), eqD_self h]; exact Iff.rfl
theorem cm_eqpl {k : Nat} {d : D} {kb : Bool → Prop} (h : Pl k d) (hk : k ≤ 64) : Cm .eq d d kb ↔ kb true := by
  rw [cm_eq (shp_pl h hk) (shp_pl h hk), eqD_self h]
/-! ### the deeds of a trace -/
def dD (p : List D × Int) : D := .tup [.tup p.1, .int p.2]
def B.its : B → List D
  | .rest => [.str "rest"]
  | .pay t b => [.str "pay", .tup [.int t, .int b]]
  | .put j n => [.str "put", .str j, .int n]
  | .use d => [.str "use", .str d]
  | .take j n a b => [.str "take", .str j, .int n, a.d, b.d]
  | .thn a b => [.str "then", a.d, b.d]
  | .eith a b => [.str "either", a.d, b.d]
  | .oft a => [.str "often", a.d]
theorem B.d_its (b : B) : b.d = .tup b.its := by cases b <;> rfl
/-- the words of a fork -/
def B.hd : B → List D
  | .take j n _ _ => [.str "take", .str j, .int n]
  | .eith _ _ => [.str "either"]
  | .oft _ => [.str "often"]
  | b => b.its
/-- the deeds of an often: of one going f -/
def gosD (f : Tt → List (List D × Int)) : Tt → List (List D × Int)
  | .go m t r => (List.replicate m.toNat (([.str "often"], 0) :: f t)).flatten ++ gosD f r
  | _ => [([.str "often"], 1)]
def thD (f g : Tt → List (List D × Int)) : Tt → List (List D × Int)
  | .two s t => f s ++ g t
  | _ => []
def siD (w : List D) (f g : Tt → List (List D × Int)) : Tt → List (List D × Int)
  | .sd false t => (w, 0) :: f t
  | .sd true t => (w, 1) :: g t
  | _ => []
def B.dn : B → Tt → List (List D × Int)
  | .rest => fun _ => []
  | .thn a b => thD a.dn b.dn
  | .eith a b => siD [.str "either"] a.dn b.dn
  | .take j n a b => siD [.str "take", .str j, .int n] a.dn b.dn
  | .oft a => gosD a.dn
  | .pay t b => fun _ => [([.str "pay", .tup [.int t, .int b]], 0)]
  | .put j n => fun _ => [([.str "put", .str j, .int n], 0)]
  | .use d => fun _ => [([.str "use", .str d], 0)]
theorem pow4 {a b P Q : Nat} (h1 : a ≤ 4 ^ P) (h2 : b ≤ 4 ^ Q) : 3 * a + b ≤ 4 ^ (1 + P + Q) := by
  have e : 4 ^ (1 + P + Q) = 4 * (4 ^ P * 4 ^ Q) := by rw [Nat.pow_add, Nat.pow_add]; simp [Nat.mul_assoc]
  have p1 : 0 < 4 ^ P := Nat.pow_pos (by decide)
  have p2 : 0 < 4 ^ Q := Nat.pow_pos (by decide)
  have h3 : 4 ^ P ≤ 4 ^ P * 4 ^ Q := Nat.le_mul_of_pos_right _ p2
  have h4 : 4 ^ Q ≤ 4 ^ P * 4 ^ Q := Nat.le_mul_of_pos_left _ p1
  omega
theorem flat_len {α : Type} {m : Nat} {xs : List α} : (List.replicate m xs).flatten.length = m * xs.length := by
  induction m with
  | zero => simp
  | succ m ih => rw [List.replicate_succ, List.flatten_cons, List.length_append, ih, Nat.succ_mul, Nat.add_comm]
theorem dn_len : ∀ (t : Tt) (b : B), IsTr b t → t.All G3 → (b.dn t).length ≤ 3 * (4 ^ t.gc * b.pt) := by
  have pp : ∀ b : B, 0 < b.pt := fun b => by cases b <;> simp only [B.pt] <;> omega
  intro t
  induction t <;> intro b h g
  case nil =>
    have hb := pp b
    simp only [Tt.gc, Nat.pow_zero, Nat.one_mul]
    cases b <;> simp only [IsTr] at h <;> simp only [B.dn, gosD, List.length_nil, List.length_cons] <;> omega
  case two s t i1 i2 =>
    cases b <;> simp only [IsTr] at h
    case thn a b =>
      have h1 := i1 a h.1 g.1
      have h2 := i2 b h.2 g.2
      simp only [B.dn, thD, List.length_append, Tt.gc, B.pt]
      have e1 : 4 ^ s.gc * a.pt ≤ 4 ^ (s.gc + t.gc) * a.pt := Nat.mul_le_mul_right _ (Nat.pow_le_pow_right (by decide) (by omega))
      have e2 : 4 ^ t.gc * b.pt ≤ 4 ^ (s.gc + t.gc) * b.pt := Nat.mul_le_mul_right _ (Nat.pow_le_pow_right (by decide) (by omega))
      simp only [Nat.mul_add, Nat.mul_one]
      omega
  case sd k t i1 =>
    have key : ∀ (a c : B) (w : List D), IsTr (a.sid c k) t → (siD w a.dn c.dn (.sd k t)).length ≤ 3 * (4 ^ (Tt.sd k t).gc * (1 + a.pt + c.pt)) := fun a c w h => by
      have h1 := i1 _ h g
      have p0 : 0 < 4 ^ t.gc := Nat.pow_pos (by decide)
      simp only [Nat.mul_add, Nat.mul_one, Tt.gc]
      cases k <;> simp only [B.sid, siD, Bool.false_eq_true, if_true, if_false, List.length_cons] at h1 ⊢ <;> omega
    cases b <;> simp only [IsTr] at h
    case eith a b => exact key a b _ h
    case take j z a b => exact key a b _ h
  case go m t r i1 i2 =>
    cases b <;> simp only [IsTr] at h
    case oft a =>
      have h1 := i1 a h.2.1 g.2.1
      have h2 := i2 (.oft a) h.2.2 g.2.2
      have hm := g.1
      have ha := pp a
      simp only [B.dn, gosD, List.length_append, flat_len, List.length_cons, Tt.gc, B.pt] at h2 ⊢
      have hm3 : m.toNat ≤ 3 := by have := hm.2; omega
      have e0 : m.toNat * ((a.dn t).length + 1) ≤ 3 * ((a.dn t).length + 1) := Nat.mul_le_mul_right _ hm3
      have p0 : 0 < 4 ^ t.gc := Nat.pow_pos (by decide)
      have e1 : (a.dn t).length + 1 ≤ 3 * (4 ^ t.gc * (1 + a.pt)) := by rw [Nat.mul_add]; omega
      have e2 := pow4 (Nat.le_refl (4 ^ t.gc)) (Nat.le_refl (4 ^ r.gc))
      have e3 := Nat.mul_le_mul_right (1 + a.pt) e2
      rw [Nat.add_mul] at e3
      rw [Nat.mul_assoc] at e3
      omega
theorem B.pt_6 {b : B} (h : b.dp ≤ 6) : b.pt ≤ 127 := by
  have h2 := b.pt_le
  have h3 := Nat.pow_le_pow_right (n := 2) (by decide) (show b.dp + 1 ≤ 7 by omega)
  omega
theorem dn_small {b : B} {t : Tt} (h : IsTr b t) (g : t.All G3) (hd : b.dp ≤ 6) (hg : t.gc ≤ 5) : (b.dn t).length ≤ 400000 := by
  have h1 := dn_len t b h g
  have h2 := B.pt_6 hd
  have h3 : 4 ^ t.gc ≤ 4 ^ 5 := Nat.pow_le_pow_right (by decide) hg
  have h4 := Nat.mul_le_mul h3 h2
  omega
end J
/-! S12: the deeds of a trace, as the law finds them. -/
namespace J
open PySem L2
theorem len_le {α : Type} {xs ys zs : List α} (e : xs ++ ys = zs) {n : Nat} (h : zs.length ≤ n) : xs.length ≤ n ∧ ys.length ≤ n := by
  rw [← e, List.length_append] at h; omega
theorem l_done_ok (b : B) : ∀ t, IsTr b t → (b.dn t).length ≤ 1000000 → ∀ K, b.dp < K → callP U G K 39 [b.d, t.d] = M.pure (.fr ((b.dn t).map dD)) := by
  induction b <;> (intro t ht hl K hK; refine pure_of fun μ Q q => ?_; obtain ⟨K, rfl⟩ := kS hK; try simp only [B.dp] at hK; rw [c_l_done]; unfold b_l_done)
  case thn a b i1 i2 =>
    cases t <;> simp only [IsTr] at ht
    rename_i s t
    simp only [B.dn, thD] at hl q
    have h2 := len_le rfl hl
    have e1 := i1 s ht.1 h2.1 K (by omega)
    have e2 := i2 t ht.2 h2.2 K (by omega)
    simp -dsimp (disch := omega) only [B.d, Tt.d_two, e1, e2, wp_pure, ev, ofS_inj, String.reduceEq, Int.reduceNeg, decide_true, decide_false, Bool.not_true, Bool.not_false, Bool.not_eq_true, true_or, or_true, or_false, false_or, true_and, and_true, and_false, false_and, or_self, and_self]
    rw [bn_addm (by rw [List.length_append] at hl; exact hl)]
    simp -dsimp (disch := omega) only [ev, ofS_inj, String.reduceEq, Int.reduceNeg, decide_true, decide_false, Bool.not_true, Bool.not_false, Bool.not_eq_true, true_or, or_true, or_false, false_or, true_and, and_true, and_false, false_and, or_self, and_self]
    exact q
  case oft a i1 =>
    simp -dsimp (disch := omega) only [B.d, ev, ofS_inj, String.reduceEq, Int.reduceNeg, decide_true, decide_false, Bool.not_true, Bool.not_false, Bool.not_eq_true, true_or, or_true, or_false, false_or, true_and, and_true, and_false, false_and, or_self, and_self]
    refine each_inv (fun ds ρ μ' => ∃ (r : Tt) (xs : List (List D × Int)) (a3 a4 : Slot), ds = r.its ∧ IsTr (.oft a) r ∧ xs ++ gosD a.dn r = gosD a.dn t ∧ ρ = [.val (.tup [.str "often", a.d]), .val t.d, .val (.lst (xs.map dD)), a3, a4] ∧ μ' = μ) ?_ ?_ ⟨t, [], _, _, rfl, ht, rfl, rfl, rfl⟩
    · rintro d ds ρ μ' ⟨r, xs, a3, a4, e, hr, ex, rfl, rfl⟩
      cases r <;> simp only [IsTr] at hr
      case nil => cases e
      case go m t1 r =>
        simp only [Tt.its] at e
        cases e
        have hl' : (gosD a.dn t).length ≤ 1000000 := hl
        rw [← ex] at hl'
        simp only [gosD, List.length_append, flat_len, List.length_cons] at hl'
        have hm := hr.1
        have m1 : 1 ≤ m.toNat := by omega
        have l1 : (a.dn t1).length + 1 ≤ m.toNat * ((a.dn t1).length + 1) := Nat.le_mul_of_pos_left _ m1
        have l2 : m.toNat ≤ m.toNat * ((a.dn t1).length + 1) := Nat.le_mul_of_pos_right _ (by omega)
        have e1 := i1 t1 hr.2.1 (by omega) K (by omega)
        have e0 : D.tup t1.its = t1.d := rfl
        simp -dsimp (disch := omega) only [e0, e1, wp_pure, ev, ofS_inj, String.reduceEq, Int.reduceNeg, decide_true, decide_false, Bool.not_true, Bool.not_false, Bool.not_eq_true, true_or, or_true, or_false, false_or, true_and, and_true, and_false, false_and, or_self, and_self]
        rw [bn_addl (by simp only [List.length_cons, List.length_nil, List.length_map]; omega)]
        simp -dsimp (disch := omega) only [ev, ofS_inj, String.reduceEq, Int.reduceNeg, decide_true, decide_false, Bool.not_true, Bool.not_false, Bool.not_eq_true, true_or, or_true, or_false, false_or, true_and, and_true, and_false, false_and, or_self, and_self]
        rw [bn_rep (by omega) (by omega) (by simp only [List.length_append, List.length_cons, List.length_nil, List.length_map]; rw [show 0 + 1 + (a.dn t1).length = (a.dn t1).length + 1 by omega, Nat.mul_comm]; omega)]
        simp -dsimp (disch := omega) only [ev, ofS_inj, String.reduceEq, Int.reduceNeg, decide_true, decide_false, Bool.not_true, Bool.not_false, Bool.not_eq_true, true_or, or_true, or_false, false_or, true_and, and_true, and_false, false_and, or_self, and_self]
        have e3 : (List.replicate m.toNat ([D.tup [.tup [.str "often"], .int 0]] ++ (a.dn t1).map dD)).flatten = ((List.replicate m.toNat (([D.str "often"], (0 : Int)) :: a.dn t1)).flatten).map dD := by
          rw [List.map_flatten, List.map_replicate]; rfl
        rw [e3, bn_addm (by simp only [flat_len, List.length_cons]; omega)]
        simp -dsimp (disch := omega) only [ev, ofS_inj, String.reduceEq, Int.reduceNeg, decide_true, decide_false, Bool.not_true, Bool.not_false, Bool.not_eq_true, true_or, or_true, or_false, false_or, true_and, and_true, and_false, false_and, or_self, and_self]
        exact ⟨r, _, _, _, rfl, hr.2.2, by rw [List.append_assoc]; exact ex, rfl⟩
    · rintro ρ μ' ⟨r, xs, a3, a4, e, hr, ex, rfl, rfl⟩
      cases r <;> simp only [IsTr] at hr
      case go => cases e
      case nil =>
        have hl' : (gosD a.dn t).length ≤ 1000000 := hl
        rw [← ex] at hl'
        simp only [gosD, List.length_append, List.length_singleton] at hl'
        simp -dsimp (disch := omega) only [ev, ofS_inj, String.reduceEq, Int.reduceNeg, decide_true, decide_false, Bool.not_true, Bool.not_false, Bool.not_eq_true, true_or, or_true, or_false, false_or, true_and, and_true, and_false, false_and, or_self, and_self]
        rw [bn_addl (by simp only [List.length_cons, List.length_nil, List.length_map]; omega)]
        simp -dsimp (disch := omega) only [ev, ofS_inj, String.reduceEq, Int.reduceNeg, decide_true, decide_false, Bool.not_true, Bool.not_false, Bool.not_eq_true, true_or, or_true, or_false, false_or, true_and, and_true, and_false, false_and, or_self, and_self]
        have q : Q (.fr ((gosD a.dn t).map dD)) μ' := q
        rw [← ex, List.map_append] at q
        exact q
  case eith a b i1 i2 =>
    cases t <;> simp only [IsTr] at ht
    rename_i k t
    cases k
    · simp only [B.dn, siD, List.length_cons] at hl q
      simp -dsimp (disch := omega) only [B.d, Tt.d_sd, bI, Bool.false_eq_true, if_true, if_false, Int.reduceSub, i1 t ht (by omega) K (by omega), wp_pure, ev, ofS_inj, String.reduceEq, Int.reduceNeg, decide_true, decide_false, Bool.not_true, Bool.not_false, Bool.not_eq_true, true_or, or_true, or_false, false_or, true_and, and_true, and_false, false_and, or_self, and_self]
      rw [bn_addl (by simp only [List.length_cons, List.length_nil, List.length_map]; omega)]
      simp -dsimp (disch := omega) only [ev, ofS_inj, String.reduceEq, Int.reduceNeg, decide_true, decide_false, Bool.not_true, Bool.not_false, Bool.not_eq_true, true_or, or_true, or_false, false_or, true_and, and_true, and_false, false_and, or_self, and_self]
      exact q
    · simp only [B.dn, siD, List.length_cons] at hl q
      simp -dsimp (disch := omega) only [B.d, Tt.d_sd, bI, Bool.false_eq_true, if_true, if_false, Int.reduceSub, i2 t ht (by omega) K (by omega), wp_pure, ev, ofS_inj, String.reduceEq, Int.reduceNeg, decide_true, decide_false, Bool.not_true, Bool.not_false, Bool.not_eq_true, true_or, or_true, or_false, false_or, true_and, and_true, and_false, false_and, or_self, and_self]
      rw [bn_addl (by simp only [List.length_cons, List.length_nil, List.length_map]; omega)]
      simp -dsimp (disch := omega) only [ev, ofS_inj, String.reduceEq, Int.reduceNeg, decide_true, decide_false, Bool.not_true, Bool.not_false, Bool.not_eq_true, true_or, or_true, or_false, false_or, true_and, and_true, and_false, false_and, or_self, and_self]
      exact q
  case take j z a b i1 i2 =>
    cases t <;> simp only [IsTr] at ht
    rename_i k t
    cases k
    · simp only [B.dn, siD, List.length_cons] at hl q
      simp -dsimp (disch := omega) only [B.d, Tt.d_sd, bI, Bool.false_eq_true, if_true, if_false, Int.reduceSub, i1 t ht (by omega) K (by omega), wp_pure, ev, ofS_inj, String.reduceEq, Int.reduceNeg, decide_true, decide_false, Bool.not_true, Bool.not_false, Bool.not_eq_true, true_or, or_true, or_false, false_or, true_and, and_true, and_false, false_and, or_self, and_self]
      rw [bn_addl (by simp only [List.length_cons, List.length_nil, List.length_map]; omega)]
      simp -dsimp (disch := omega) only [ev, ofS_inj, String.reduceEq, Int.reduceNeg, decide_true, decide_false, Bool.not_true, Bool.not_false, Bool.not_eq_true, true_or, or_true, or_false, false_or, true_and, and_true, and_false, false_and, or_self, and_self]
      exact q
    · simp only [B.dn, siD, List.length_cons] at hl q
      simp -dsimp (disch := omega) only [B.d, Tt.d_sd, bI, Bool.false_eq_true, if_true, if_false, Int.reduceSub, i2 t ht (by omega) K (by omega), wp_pure, ev, ofS_inj, String.reduceEq, Int.reduceNeg, decide_true, decide_false, Bool.not_true, Bool.not_false, Bool.not_eq_true, true_or, or_true, or_false, false_or, true_and, and_true, and_false, false_and, or_self, and_self]
      rw [bn_addl (by simp only [List.length_cons, List.length_nil, List.length_map]; omega)]
      simp -dsimp (disch := omega) only [ev, ofS_inj, String.reduceEq, Int.reduceNeg, decide_true, decide_false, Bool.not_true, Bool.not_false, Bool.not_eq_true, true_or, or_true, or_false, false_or, true_and, and_true, and_false, false_and, or_self, and_self]
      exact q
  all_goals
    simp -dsimp (disch := omega) only [B.d, ev, ofS_inj, String.reduceEq, Int.reduceNeg, decide_true, decide_false, Bool.not_true, Bool.not_false, Bool.not_eq_true, true_or, or_true, or_false, false_or, true_and, and_true, and_false, false_and, or_self, and_self]
    exact q
end J
/-! S13: deeds led through a chart. -/
namespace J
open PySem L2
theorem lenI_0 : ((List.length (α := D) [] : Nat) : Int) = 0 := rfl
theorem lenI_1 {x0 : D} : ((List.length (α := D) [x0] : Nat) : Int) = 1 := rfl
theorem lenI_2 {x0 x1 : D} : ((List.length (α := D) [x0, x1] : Nat) : Int) = 2 := rfl
theorem lenI_3 {x0 x1 x2 : D} : ((List.length (α := D) [x0, x1, x2] : Nat) : Int) = 3 := rfl
theorem lenI_4 {x0 x1 x2 x3 : D} : ((List.length (α := D) [x0, x1, x2, x3] : Nat) : Int) = 4 := rfl
theorem lenI_5 {x0 x1 x2 x3 x4 : D} : ((List.length (α := D) [x0, x1, x2, x3, x4] : Nat) : Int) = 5 := rfl
theorem lenI_6 {x0 x1 x2 x3 x4 x5 : D} : ((List.length (α := D) [x0, x1, x2, x3, x4, x5] : Nat) : Int) = 6 := rfl
theorem lenI_7 {x0 x1 x2 x3 x4 x5 x6 : D} : ((List.length (α := D) [x0, x1, x2, x3, x4, x5, x6] : Nat) : Int) = 7 := rfl
/-- the words of a row, and how many places it has -/
inductive Dw : List D → Nat → Prop
  | pay (t b : Int) : Dw [.str "pay", .tup [.int t, .int b]] 1
  | put (j : Str) (n : Int) (h : OkW j) : Dw [.str "put", .str j, .int n] 1
  | use (d : Str) (h : OkW d) : Dw [.str "use", .str d] 1
  | take (j : Str) (n : Int) (h : OkW j) : Dw [.str "take", .str j, .int n] 2
  | eith : Dw [.str "either"] 2
  | oft : Dw [.str "often"] 2
theorem Dw.pl {w : List D} {m : Nat} (h : Dw w m) : Pl 2 (.tup w) := by
  have tp : ∀ {k : Nat} {ds : List D}, ds.length ≤ 5 → (∀ d ∈ ds, Pl k d) → Pl (k + 1) (.tup ds) := fun hl h => .tup (by omega) h
  cases h <;> (refine tp (by simp) fun d hd => ?_; simp only [List.mem_cons, List.not_mem_nil, or_false] at hd)
  case pay t b =>
    rcases hd with rfl | rfl
    · exact pl_w
    · refine tp (by simp) fun d hd => ?_
      simp only [List.mem_cons, List.not_mem_nil, or_false] at hd
      rcases hd with rfl | rfl <;> exact .int _
  case put j n h =>
    rcases hd with rfl | rfl | rfl
    · exact pl_w
    · exact .str h
    · exact .int _
  case use d' h =>
    rcases hd with rfl | rfl
    · exact pl_w
    · exact .str h
  case take j n h =>
    rcases hd with rfl | rfl | rfl
    · exact pl_w
    · exact .str h
    · exact .int _
  all_goals (rw [hd]; exact pl_w)
/-- one deed leads from p to p' -/
structure Step (rows : List D) (p : Int) (w : List D) (s p' : Int) (m : Nat) (tl : List D) : Prop where
  hw : Dw w m
  p0 : 0 ≤ p
  row : rows[p.toNat]? = some (.tup (w ++ tl))
  len : tl.length = m
  s0 : 0 ≤ s
  to : tl[s.toNat]? = some (.int p')
  q0 : 0 ≤ p'
  q1 : p' < rows.length
inductive Run (rows : List D) : Int → List (List D × Int) → List Int → Int → Prop
  | nil {p : Int} : Run rows p [] [] p
  | cons {p p' q : Int} {w : List D} {s : Int} {m : Nat} {tl : List D} {ds : List (List D × Int)} {ps : List Int} (h : Step rows p w s p' m tl) (r : Run rows p' ds ps q) : Run rows p ((w, s) :: ds) (p' :: ps) q
theorem Run.append {rows : List D} {p q r : Int} {ds es : List (List D × Int)} {ps qs : List Int} (h : Run rows p ds ps q) (g : Run rows q es qs r) : Run rows p (ds ++ es) (ps ++ qs) r := by
  induction h with
  | nil => exact g
  | cons h _ ih => exact .cons h (ih g)
theorem Run.mem {rows : List D} {p q : Int} {ds : List (List D × Int)} {ps : List Int} (h : Run rows p ds ps q) : q ∈ p :: ps := by
  induction h with
  | nil => exact List.mem_cons_self
  | cons _ _ ih => exact List.mem_cons_of_mem _ ih
theorem Run.last {rows : List D} {p q : Int} {ds : List (List D × Int)} {ps : List Int} (h : Run rows p ds ps q) : ∃ xs, p :: ps = xs ++ [q] := by
  induction h with
  | nil => exact ⟨[], rfl⟩
  | @cons p p' q w s m tl ds ps h _ ih =>
    obtain ⟨xs, e⟩ := ih
    exact ⟨p :: xs, by rw [e]; rfl⟩
theorem Run.len {rows : List D} {p q : Int} {ds : List (List D × Int)} {ps : List Int} (h : Run rows p ds ps q) : ps.length = ds.length := by
  induction h with
  | nil => rfl
  | cons _ _ ih => simp only [List.length_cons, ih]
theorem gone_turn {rows : List D} {C : Calls} {g : GT} {p p' s : Int} {w : List D} {m : Nat} {tl : List D} (h : Step rows p w s p' m tl) {fs : List Int} (hf : fs.length + 1 ≤ 1000000) {a0 a4 a5 a6 a7 : Slot} {μ : Sto} {S : Flo → Sto → Prop}
    (q : ∀ a4 a5 a6 a7, S (.nx [.val (.tup rows), a0, .val (.int p'), .own ((fs ++ [p']).map D.int), a4, a5, a6, a7]) μ) :
    Bt (.tp [(.nm 4), (.nm 5)]) (dD (w, s)) [.val (.tup rows), a0, .val (.int p), .own (fs.map D.int), a4, a5, a6, a7] fun ρ1 => Rs C g [.asg (.nm 6) (.idx (.var 0) (.var 2)), .asg (.nm 7) (.bin .add (.lit (.int 1)) (.blt .int [(.cmp .isin (.idx (.var 4) (.lit (.int 0))) (.tup [(.lit (.str "either")), (.lit (.str "take")), (.lit (.str "often"))]))])), .ifs (.or (.cmp .ne (.slc (.var 6) none (some (.neg (.var 7)))) (.var 4)) (.cmp .ne (.blt .len [(.var 6)]) (.bin .add (.blt .len [(.var 4)]) (.var 7)))) [.ret (.lit .non)] [], .asg (.nm 2) (.idx (.var 6) (.bin .add (.blt .len [(.var 4)]) (.var 5))), .ifs (.or (.not (.blt .isInt [(.var 2)])) (.or (.blt .isBool [(.var 2)]) (.or (.cmp .lt (.var 2) (.lit (.int 0))) (.cmp .ge (.var 2) (.blt .len [(.var 0)]))))) [.ret (.lit .non)] [], .app (.var 3) (.var 2)] ρ1 μ S := by
  obtain ⟨hw, p0, row, len, s0, to, q0, q1⟩ := h
  have pl := hw.pl
  have d1 : decide (p' < 0) = false := decide_eq_false (by omega)
  have d2 : decide ((rows.length : Int) ≤ p') = false := decide_eq_false (by omega)
  have fin : S (.nx [.val (.tup rows), a0, .val (.int p'), .own (fs.map D.int ++ [.int p']), .val (.tup w), .val (.int s), .val (.tup (w ++ tl)), .val (.int (m : Int))]) μ := by
    have := q (.val (.tup w)) (.val (.int s)) (.val (.tup (w ++ tl))) (.val (.int m))
    rw [List.map_append] at this
    exact this
  clear q
  have cases2 : ∀ {x y : D}, [x, y][s.toNat]? = some (.int p') → (s = 0 ∧ x = .int p') ∨ (s = 1 ∧ y = .int p') := fun {x y} e => by
    have : s.toNat = 0 ∨ s.toNat = 1 ∨ ∃ k, s.toNat = k + 2 := by
      rcases Nat.lt_or_ge s.toNat 2 with h | h
      · omega
      · exact .inr (.inr ⟨s.toNat - 2, by omega⟩)
    rcases this with h | h | ⟨k, h⟩ <;> rw [h] at e
    · exact .inl ⟨by omega, Option.some.inj e⟩
    · exact .inr ⟨by omega, Option.some.inj e⟩
    · simp at e
  have cases1 : ∀ {x : D}, [x][s.toNat]? = some (.int p') → s = 0 ∧ x = .int p' := fun {x} e => by
    have : s.toNat = 0 ∨ ∃ k, s.toNat = k + 1 := by
      rcases Nat.lt_or_ge s.toNat 1 with h | h
      · omega
      · exact .inr ⟨s.toNat - 1, by omega⟩
    rcases this with h | ⟨k, h⟩ <;> rw [h] at e
    · exact ⟨by omega, Option.some.inj e⟩
    · simp at e
  have hx : (fs.map D.int).length + 1 ≤ 1000000 := by rw [List.length_map]; exact hf
  cases hw
  case oft =>
    obtain ⟨x, y, rfl⟩ : ∃ x y, tl = [x, y] := match tl, len with | [x, y], _ => ⟨x, y, rfl⟩
    rcases cases2 to with ⟨rfl, rfl⟩ | ⟨rfl, rfl⟩
    · simp -dsimp (disch := omega) only [dD, ata_of p0 row, List.cons_append, List.nil_append, if_true, Bool.false_eq_true, if_false, Int.reduceAdd, Int.reduceNeg, cm_nepl pl (show 2 ≤ 64 by decide), d1, d2, lenI_1, lenI_2, lenI_3, lenI_4, lenI_5, Int.reduceEq, xm_bo1 hx, ev, ofS_inj, String.reduceEq, Int.reduceNeg, decide_true, decide_false, Bool.not_true, Bool.not_false, Bool.not_eq_true, true_or, or_true, or_false, false_or, true_and, and_true, and_false, false_and, or_self, and_self]
      exact fin
    · simp -dsimp (disch := omega) only [dD, ata_of p0 row, List.cons_append, List.nil_append, if_true, Bool.false_eq_true, if_false, Int.reduceAdd, Int.reduceNeg, cm_nepl pl (show 2 ≤ 64 by decide), d1, d2, lenI_1, lenI_2, lenI_3, lenI_4, lenI_5, Int.reduceEq, xm_bo1 hx, ev, ofS_inj, String.reduceEq, Int.reduceNeg, decide_true, decide_false, Bool.not_true, Bool.not_false, Bool.not_eq_true, true_or, or_true, or_false, false_or, true_and, and_true, and_false, false_and, or_self, and_self]
      exact fin
  case eith =>
    obtain ⟨x, y, rfl⟩ : ∃ x y, tl = [x, y] := match tl, len with | [x, y], _ => ⟨x, y, rfl⟩
    rcases cases2 to with ⟨rfl, rfl⟩ | ⟨rfl, rfl⟩
    · simp -dsimp (disch := omega) only [dD, ata_of p0 row, List.cons_append, List.nil_append, if_true, Bool.false_eq_true, if_false, Int.reduceAdd, Int.reduceNeg, cm_nepl pl (show 2 ≤ 64 by decide), d1, d2, lenI_1, lenI_2, lenI_3, lenI_4, lenI_5, Int.reduceEq, xm_bo1 hx, ev, ofS_inj, String.reduceEq, Int.reduceNeg, decide_true, decide_false, Bool.not_true, Bool.not_false, Bool.not_eq_true, true_or, or_true, or_false, false_or, true_and, and_true, and_false, false_and, or_self, and_self]
      exact fin
    · simp -dsimp (disch := omega) only [dD, ata_of p0 row, List.cons_append, List.nil_append, if_true, Bool.false_eq_true, if_false, Int.reduceAdd, Int.reduceNeg, cm_nepl pl (show 2 ≤ 64 by decide), d1, d2, lenI_1, lenI_2, lenI_3, lenI_4, lenI_5, Int.reduceEq, xm_bo1 hx, ev, ofS_inj, String.reduceEq, Int.reduceNeg, decide_true, decide_false, Bool.not_true, Bool.not_false, Bool.not_eq_true, true_or, or_true, or_false, false_or, true_and, and_true, and_false, false_and, or_self, and_self]
      exact fin
  case take =>
    obtain ⟨x, y, rfl⟩ : ∃ x y, tl = [x, y] := match tl, len with | [x, y], _ => ⟨x, y, rfl⟩
    rcases cases2 to with ⟨rfl, rfl⟩ | ⟨rfl, rfl⟩
    · simp -dsimp (disch := omega) only [dD, ata_of p0 row, List.cons_append, List.nil_append, if_true, Bool.false_eq_true, if_false, Int.reduceAdd, Int.reduceNeg, cm_nepl pl (show 2 ≤ 64 by decide), d1, d2, lenI_1, lenI_2, lenI_3, lenI_4, lenI_5, Int.reduceEq, xm_bo1 hx, ev, ofS_inj, String.reduceEq, Int.reduceNeg, decide_true, decide_false, Bool.not_true, Bool.not_false, Bool.not_eq_true, true_or, or_true, or_false, false_or, true_and, and_true, and_false, false_and, or_self, and_self]
      exact fin
    · simp -dsimp (disch := omega) only [dD, ata_of p0 row, List.cons_append, List.nil_append, if_true, Bool.false_eq_true, if_false, Int.reduceAdd, Int.reduceNeg, cm_nepl pl (show 2 ≤ 64 by decide), d1, d2, lenI_1, lenI_2, lenI_3, lenI_4, lenI_5, Int.reduceEq, xm_bo1 hx, ev, ofS_inj, String.reduceEq, Int.reduceNeg, decide_true, decide_false, Bool.not_true, Bool.not_false, Bool.not_eq_true, true_or, or_true, or_false, false_or, true_and, and_true, and_false, false_and, or_self, and_self]
      exact fin
  case pay =>
    obtain ⟨x, rfl⟩ : ∃ x, tl = [x] := match tl, len with | [x], _ => ⟨x, rfl⟩
    obtain ⟨rfl, rfl⟩ := cases1 to
    simp -dsimp (disch := omega) only [dD, ata_of p0 row, List.cons_append, List.nil_append, if_true, Bool.false_eq_true, if_false, Int.reduceAdd, Int.reduceNeg, cm_nepl pl (show 2 ≤ 64 by decide), d1, d2, lenI_1, lenI_2, lenI_3, lenI_4, lenI_5, Int.reduceEq, xm_bo1 hx, List.dropLast_cons₂, List.dropLast_singleton, ev, ofS_inj, String.reduceEq, Int.reduceNeg, decide_true, decide_false, Bool.not_true, Bool.not_false, Bool.not_eq_true, true_or, or_true, or_false, false_or, true_and, and_true, and_false, false_and, or_self, and_self]
    exact fin
  case put =>
    obtain ⟨x, rfl⟩ : ∃ x, tl = [x] := match tl, len with | [x], _ => ⟨x, rfl⟩
    obtain ⟨rfl, rfl⟩ := cases1 to
    simp -dsimp (disch := omega) only [dD, ata_of p0 row, List.cons_append, List.nil_append, if_true, Bool.false_eq_true, if_false, Int.reduceAdd, Int.reduceNeg, cm_nepl pl (show 2 ≤ 64 by decide), d1, d2, lenI_1, lenI_2, lenI_3, lenI_4, lenI_5, Int.reduceEq, xm_bo1 hx, List.dropLast_cons₂, List.dropLast_singleton, ev, ofS_inj, String.reduceEq, Int.reduceNeg, decide_true, decide_false, Bool.not_true, Bool.not_false, Bool.not_eq_true, true_or, or_true, or_false, false_or, true_and, and_true, and_false, false_and, or_self, and_self]
    exact fin
  case use =>
    obtain ⟨x, rfl⟩ : ∃ x, tl = [x] := match tl, len with | [x], _ => ⟨x, rfl⟩
    obtain ⟨rfl, rfl⟩ := cases1 to
    simp -dsimp (disch := omega) only [dD, ata_of p0 row, List.cons_append, List.nil_append, if_true, Bool.false_eq_true, if_false, Int.reduceAdd, Int.reduceNeg, cm_nepl pl (show 2 ≤ 64 by decide), d1, d2, lenI_1, lenI_2, lenI_3, lenI_4, lenI_5, Int.reduceEq, xm_bo1 hx, List.dropLast_cons₂, List.dropLast_singleton, ev, ofS_inj, String.reduceEq, Int.reduceNeg, decide_true, decide_false, Bool.not_true, Bool.not_false, Bool.not_eq_true, true_or, or_true, or_false, false_or, true_and, and_true, and_false, false_and, or_self, and_self]
    exact fin
theorem l_gone_ok {rows : List D} {ds : List (List D × Int)} {ps : List Int} {q : Int} (h : Run rows 0 ds ps q) (hl : ds.length + 1 ≤ 900000) {K : Nat} (hK : 0 < K) : callP U G K 40 [.tup rows, .lst (ds.map dD)] = M.pure (.fr ((0 :: ps).map D.int)) := by
  refine pure_of fun μ Q k => ?_
  obtain ⟨K, rfl⟩ := kS hK
  rw [c_l_gone]; unfold b_l_gone
  simp -dsimp (disch := omega) only [ev, ofS_inj, String.reduceEq, Int.reduceNeg, decide_true, decide_false, Bool.not_true, Bool.not_false, Bool.not_eq_true, true_or, or_true, or_false, false_or, true_and, and_true, and_false, false_and, or_self, and_self]
  refine each_inv (fun es ρ μ' => ∃ (r : List (List D × Int)) (p : Int) (fs qs : List Int) (a4 a5 a6 a7 : Slot), es = r.map dD ∧ Run rows p r qs q ∧ fs ++ qs = 0 :: ps ∧ ρ = [.val (.tup rows), .val (.lst (ds.map dD)), .val (.int p), .own (fs.map D.int), a4, a5, a6, a7] ∧ μ' = μ) ?_ ?_ ⟨ds, 0, [0], ps, _, _, _, _, rfl, h, rfl, rfl, rfl⟩
  · rintro d es ρ μ' ⟨r, p, fs, qs, a4, a5, a6, a7, e, hr, ef, rfl, rfl⟩
    have hlen := h.len
    cases hr with
    | nil => cases e
    | @cons _ p' _ w s m tl r qs hs hr =>
      cases e
      refine gone_turn hs ?_ fun b4 b5 b6 b7 => ?_
      · have := congrArg List.length ef
        simp only [List.length_append, List.length_cons] at this
        omega
      · exact ⟨r, p', _, qs, _, _, _, _, rfl, hr, by rw [List.append_assoc]; exact ef, rfl, rfl⟩
  · rintro ρ μ' ⟨r, p, fs, qs, a4, a5, a6, a7, e, hr, ef, rfl, rfl⟩
    cases hr with
    | cons _ _ => cases e
    | nil =>
      simp -dsimp (disch := omega) only [ev, ofS_inj, String.reduceEq, Int.reduceNeg, decide_true, decide_false, Bool.not_true, Bool.not_false, Bool.not_eq_true, true_or, or_true, or_false, false_or, true_and, and_true, and_false, false_and, or_self, and_self]
      rw [List.append_nil] at ef
      rw [ef]
      exact k
/-! ### through a chart -/
def Seg (rows : List D) (at' : Int) (xs : List D) : Prop := ∀ i : Nat, i < xs.length → rows[(at' + i).toNat]? = xs[i]?
theorem Seg.left {rows : List D} {at' : Int} {xs ys : List D} (h : Seg rows at' (xs ++ ys)) : Seg rows at' xs := fun i hi => by
  have := h i (by rw [List.length_append]; omega)
  rw [List.getElem?_append_left hi] at this; exact this
theorem Seg.right {rows : List D} {at' : Int} {xs ys : List D} (h : Seg rows at' (xs ++ ys)) : Seg rows (at' + xs.length) ys := fun i hi => by
  have := h (xs.length + i) (by rw [List.length_append]; omega)
  rw [List.getElem?_append_right (by omega), show xs.length + i - xs.length = i by omega] at this
  rw [← this]; congr 2; omega
theorem Seg.tail {rows : List D} {at' : Int} {x : D} {ys : List D} (h : Seg rows at' (x :: ys)) : Seg rows (at' + 1) ys := by
  have := Seg.right (xs := [x]) (ys := ys) h
  exact this
theorem Seg.head {rows : List D} {at' : Int} {x : D} {ys : List D} (h : Seg rows at' (x :: ys)) : rows[at'.toNat]? = some x := by
  have := h 0 (by simp)
  simpa using this
theorem bg_eq (b : B) : ∀ at' bh : Int, (b.nr = 0 ∧ b.bg at' bh = bh) ∨ (0 < b.nr ∧ b.bg at' bh = at') := by
  induction b <;> intro at' bh <;> simp only [B.bg, B.nr]
  case thn a b i1 i2 =>
    rcases i1 at' (b.bg (at' + a.nr) bh) with ⟨h1, e1⟩ | ⟨h1, e1⟩
    · rw [e1]
      rcases i2 (at' + a.nr) bh with ⟨h2, e2⟩ | ⟨h2, e2⟩
      · exact .inl ⟨by omega, e2⟩
      · exact .inr ⟨by omega, by rw [e2, h1]; omega⟩
    · exact .inr ⟨by omega, e1⟩
  case rest => exact .inl ⟨trivial, trivial⟩
  all_goals exact .inr ⟨by omega, trivial⟩
theorem bg_in {b : B} {at' bh : Int} {n : Nat} (a0 : 0 ≤ at') (a1 : at' + b.nr ≤ n) (b0 : 0 ≤ bh) (b1 : bh < n) : 0 ≤ b.bg at' bh ∧ b.bg at' bh < n := by
  rcases bg_eq b at' bh with ⟨h, e⟩ | ⟨h, e⟩ <;> rw [e]
  · exact ⟨b0, b1⟩
  · exact ⟨a0, by omega⟩
/-- led by a trace, from a body's begin to its end -/
theorem run_ok {rows : List D} {N : Int → Prop} {Kc : Int → Int → Prop} : ∀ (t : Tt) (b : B), IsTr b t → b.All OkW OkW N Kc → ∀ at' bh : Int, 0 ≤ at' → at' + b.nr ≤ rows.length → 0 ≤ bh → bh < rows.length → Seg rows at' (b.ly at' bh) →
    ∃ ps, Run rows (b.bg at' bh) (b.dn t) ps bh := by
  intro t
  induction t <;> intro b h al at' bh a0 a1 b0 b1 sg
  case nil =>
    cases b <;> simp only [IsTr] at h <;> simp only [B.nr] at a1
    case rest => exact ⟨[], .nil⟩
    case pay t b => exact ⟨[bh], .cons (m := 1) (tl := [.int bh]) ⟨.pay t b, a0, sg.head, rfl, by decide, rfl, b0, b1⟩ .nil⟩
    case put j n => exact ⟨[bh], .cons (m := 1) (tl := [.int bh]) ⟨.put j n al.1, a0, sg.head, rfl, by decide, rfl, b0, b1⟩ .nil⟩
    case use d => exact ⟨[bh], .cons (m := 1) (tl := [.int bh]) ⟨.use d al, a0, sg.head, rfl, by decide, rfl, b0, b1⟩ .nil⟩
    case oft a => exact ⟨[bh], .cons (m := 2) (tl := [.int (a.bg (at' + 1) at'), .int bh]) ⟨.oft, a0, sg.head, rfl, by decide, rfl, b0, b1⟩ .nil⟩
  case two s t i1 i2 =>
    cases b <;> simp only [IsTr] at h
    case thn a b =>
      simp only [B.nr] at a1
      have hb := bg_in (b := b) (at' := at' + a.nr) (bh := bh) (n := rows.length) (by omega) (by omega) b0 b1
      have s1 : Seg rows at' (a.ly at' (b.bg (at' + a.nr) bh)) := Seg.left sg
      have s2 : Seg rows (at' + a.nr) (b.ly (at' + a.nr) bh) := by
        have := Seg.right (xs := a.ly at' (b.bg (at' + a.nr) bh)) sg
        rw [B.ly_len] at this; exact this
      obtain ⟨ps, r1⟩ := i1 a h.1 al.1 at' _ a0 (by omega) hb.1 hb.2 s1
      obtain ⟨qs, r2⟩ := i2 b h.2 al.2 (at' + a.nr) bh (by omega) (by omega) b0 b1 s2
      exact ⟨ps ++ qs, r1.append r2⟩
  case sd k t i1 =>
    have key : ∀ (a c : B) (w : List D), IsTr (a.sid c k) t → a.All OkW OkW N Kc → c.All OkW OkW N Kc → Dw w 2 → at' + (1 + a.nr + c.nr : Nat) ≤ rows.length → Seg rows at' (.tup (w ++ [.int (a.bg (at' + 1) bh), .int (c.bg (at' + 1 + a.nr) bh)]) :: (a.ly (at' + 1) bh ++ c.ly (at' + 1 + a.nr) bh)) → ∃ ps, Run rows at' (siD w a.dn c.dn (.sd k t)) ps bh := fun a c w h1 al1 al2 hw hn sg => by
      have g1 := bg_in (b := a) (at' := at' + 1) (bh := bh) (n := rows.length) (by omega) (by omega) b0 b1
      have g2 := bg_in (b := c) (at' := at' + 1 + a.nr) (bh := bh) (n := rows.length) (by omega) (by omega) b0 b1
      have s1 : Seg rows (at' + 1) (a.ly (at' + 1) bh) := Seg.left sg.tail
      have s2 : Seg rows (at' + 1 + a.nr) (c.ly (at' + 1 + a.nr) bh) := by
        have := Seg.right (xs := a.ly (at' + 1) bh) sg.tail
        rw [B.ly_len] at this; exact this
      cases k with
      | false =>
        obtain ⟨ps, r⟩ := i1 a h1 al1 (at' + 1) bh (by omega) (by omega) b0 b1 s1
        exact ⟨_ :: ps, .cons (m := 2) (tl := [.int (a.bg (at' + 1) bh), .int (c.bg (at' + 1 + a.nr) bh)]) ⟨hw, a0, sg.head, rfl, by decide, rfl, g1.1, g1.2⟩ r⟩
      | true =>
        obtain ⟨ps, r⟩ := i1 c h1 al2 (at' + 1 + a.nr) bh (by omega) (by omega) b0 b1 s2
        exact ⟨_ :: ps, .cons (m := 2) (tl := [.int (a.bg (at' + 1) bh), .int (c.bg (at' + 1 + a.nr) bh)]) ⟨hw, a0, sg.head, rfl, by decide, rfl, g2.1, g2.2⟩ r⟩
    cases b <;> simp only [IsTr] at h
    case eith a c => exact key a c [.str "either"] h al.1 al.2 .eith a1 sg
    case take j z a c => exact key a c [.str "take", .str j, .int z] h al.2.2.1 al.2.2.2 (.take j z al.1) a1 sg
  case go m t r i1 i2 =>
    cases b <;> simp only [IsTr] at h
    case oft a =>
      simp only [B.nr] at a1
      have s1 : Seg rows (at' + 1) (a.ly (at' + 1) at') := Seg.tail sg
      have g1 := bg_in (b := a) (at' := at' + 1) (bh := at') (n := rows.length) (by omega) (by omega) a0 (by omega)
      obtain ⟨ps, r1⟩ := i1 a h.2.1 al (at' + 1) at' (by omega) (by omega) a0 (by omega) s1
      obtain ⟨qs, r2⟩ := i2 (.oft a) h.2.2 al at' bh a0 (by simp only [B.nr]; omega) b0 b1 sg
      have r3 : Run rows at' (([.str "often"], 0) :: a.dn t) (a.bg (at' + 1) at' :: ps) at' := .cons (m := 2) (tl := [.int (a.bg (at' + 1) at'), .int bh]) ⟨.oft, a0, sg.head, rfl, by decide, rfl, g1.1, g1.2⟩ r1
      have r4 : ∀ n : Nat, Run rows at' (List.replicate n (([.str "often"], 0) :: a.dn t)).flatten (List.replicate n (a.bg (at' + 1) at' :: ps)).flatten at' := by
        intro n
        induction n with
        | zero => exact .nil
        | succ n ih =>
          rw [List.replicate_succ, List.replicate_succ, List.flatten_cons, List.flatten_cons]
          exact r3.append ih
      exact ⟨_, (r4 m.toNat).append r2⟩
end J
/-! S14: where the oftens stand. -/
namespace J
open PySem L2
def B.ofp (at' : Int) : B → List Int
  | .oft a => at' :: a.ofp (at' + 1)
  | .thn a b => a.ofp at' ++ b.ofp (at' + a.nr)
  | .eith a b => a.ofp (at' + 1) ++ b.ofp (at' + 1 + a.nr)
  | .take _ _ a b => a.ofp (at' + 1) ++ b.ofp (at' + 1 + a.nr)
  | _ => []
theorem B.ofp_len (b : B) : ∀ at' : Int, (b.ofp at').length = b.ofs := by
  induction b <;> intro at' <;> simp only [B.ofp, B.ofs, List.length_cons, List.length_append, List.length_nil, *] <;> omega
theorem led_is (b : B) : ∀ n, n < b.ofs → IsTr b (b.led n .nil) := by
  induction b <;> intro n hn <;> simp only [B.ofs] at hn
  case oft a i1 =>
    cases n with
    | zero => trivial
    | succ n => exact ⟨by decide, i1 n (by omega), trivial⟩
  case thn a b i1 i2 =>
    simp only [B.led]
    split
    · exact ⟨i1 n (by assumption), plain_is b⟩
    · exact ⟨plain_is a, i2 _ (by omega)⟩
  case eith a b i1 i2 =>
    simp only [B.led]
    split
    · exact i1 n (by assumption)
    · exact i2 _ (by omega)
  case take j z a b i1 i2 =>
    simp only [B.led]
    split
    · exact i1 n (by assumption)
    · exact i2 _ (by omega)
  all_goals omega
theorem plain_all (b : B) {P : Int → Prop} : b.plain.All P := by
  induction b <;> simp only [B.plain, Tt.All] <;> first | trivial | exact ⟨by assumption, by assumption⟩ | assumption
theorem led_all (b : B) {P : Int → Prop} (h1 : P 1) : ∀ n, (b.led n .nil).All P := by
  induction b <;> intro n
  case oft a i1 =>
    cases n with
    | zero => trivial
    | succ n => exact ⟨h1, i1 n, trivial⟩
  case thn a b i1 i2 =>
    simp only [B.led]
    split
    · exact ⟨i1 n, plain_all b⟩
    · exact ⟨plain_all a, i2 _⟩
  case eith a b i1 i2 =>
    simp only [B.led]
    split
    · exact i1 n
    · exact i2 _
  case take j z a b i1 i2 =>
    simp only [B.led]
    split
    · exact i1 n
    · exact i2 _
  all_goals (cases n <;> trivial)
theorem run_led {rows : List D} {N : Int → Prop} {Kc : Int → Int → Prop} : ∀ (b : B), b.All OkW OkW N Kc → ∀ n, n < b.ofs → ∀ at' bh : Int, 0 ≤ at' → at' + b.nr ≤ rows.length → 0 ≤ bh → bh < rows.length → Seg rows at' (b.ly at' bh) →
    ∃ ps, Run rows (b.bg at' bh) (b.dn (b.led n .nil)) ps bh ∧ ∃ p, (b.ofp at')[n]? = some p ∧ p ∈ b.bg at' bh :: ps := by
  intro b
  induction b <;> intro al n hn at' bh a0 a1 b0 b1 sg <;> simp only [B.ofs] at hn <;> try omega
  case oft a i1 =>
    simp only [B.nr] at a1
    cases n with
    | zero =>
      obtain ⟨ps, r⟩ := run_ok .nil (.oft a) trivial al at' bh a0 (by simp only [B.nr]; omega) b0 b1 sg
      exact ⟨ps, r, at', rfl, List.mem_cons_self⟩
    | succ n =>
      have s1 : Seg rows (at' + 1) (a.ly (at' + 1) at') := Seg.tail sg
      have g1 := bg_in (b := a) (at' := at' + 1) (bh := at') (n := rows.length) (by omega) (by omega) a0 (by omega)
      obtain ⟨ps, r1, p, e, m⟩ := i1 al n (by omega) (at' + 1) at' (by omega) (by omega) a0 (by omega) s1
      obtain ⟨qs, r2⟩ := run_ok .nil (.oft a) trivial al at' bh a0 (by simp only [B.nr]; omega) b0 b1 sg
      have r3 : Run rows at' (([.str "often"], 0) :: a.dn (a.led n .nil)) (a.bg (at' + 1) at' :: ps) at' := .cons (m := 2) (tl := [.int (a.bg (at' + 1) at'), .int bh]) ⟨.oft, a0, sg.head, rfl, by decide, rfl, g1.1, g1.2⟩ r1
      refine ⟨(a.bg (at' + 1) at' :: ps) ++ qs, ?_, p, e, ?_⟩
      · have := r3.append r2
        show Run rows at' (((([.str "often"], 0) :: a.dn (a.led n .nil)) ++ []) ++ _) _ bh
        rw [List.append_nil]
        exact this
      · exact List.mem_cons_of_mem _ (List.mem_append_left _ m)
  case thn a b i1 i2 =>
    simp only [B.nr] at a1
    have hb := bg_in (b := b) (at' := at' + a.nr) (bh := bh) (n := rows.length) (by omega) (by omega) b0 b1
    have s1 : Seg rows at' (a.ly at' (b.bg (at' + a.nr) bh)) := Seg.left sg
    have s2 : Seg rows (at' + a.nr) (b.ly (at' + a.nr) bh) := by
      have := Seg.right (xs := a.ly at' (b.bg (at' + a.nr) bh)) sg
      rw [B.ly_len] at this; exact this
    by_cases h : n < a.ofs
    · obtain ⟨ps, r1, p, e, m⟩ := i1 al.1 n h at' _ a0 (by omega) hb.1 hb.2 s1
      obtain ⟨qs, r2⟩ := run_ok b.plain b (plain_is b) al.2 (at' + a.nr) bh (by omega) (by omega) b0 b1 s2
      refine ⟨ps ++ qs, ?_, p, ?_, ?_⟩
      · simp only [B.led, if_pos h]; exact r1.append r2
      · simp only [B.ofp]; rw [List.getElem?_append_left (by rw [B.ofp_len]; exact h)]; exact e
      · show p ∈ a.bg at' _ :: (ps ++ qs)
        rw [← List.cons_append]; exact List.mem_append_left _ m
    · obtain ⟨qs, r2, p, e, m⟩ := i2 al.2 (n - a.ofs) (by omega) (at' + a.nr) bh (by omega) (by omega) b0 b1 s2
      obtain ⟨ps, r1⟩ := run_ok a.plain a (plain_is a) al.1 at' _ a0 (by omega) hb.1 hb.2 s1
      refine ⟨ps ++ qs, ?_, p, ?_, ?_⟩
      · simp only [B.led, if_neg h]; exact r1.append r2
      · simp only [B.ofp]; rw [List.getElem?_append_right (by rw [B.ofp_len]; omega), B.ofp_len]; exact e
      · show p ∈ a.bg at' _ :: (ps ++ qs)
        rw [← List.cons_append]
        rcases List.mem_cons.mp m with rfl | m
        · exact List.mem_append_left _ r1.mem
        · exact List.mem_append_right _ m
  all_goals
    rename_i a c i1 i2
    simp only [B.nr] at a1
    have g1 := bg_in (b := a) (at' := at' + 1) (bh := bh) (n := rows.length) (by omega) (by omega) b0 b1
    have g2 := bg_in (b := c) (at' := at' + 1 + a.nr) (bh := bh) (n := rows.length) (by omega) (by omega) b0 b1
    have s0 := sg.tail
    have s1 : Seg rows (at' + 1) (a.ly (at' + 1) bh) := Seg.left s0
    have s2 : Seg rows (at' + 1 + a.nr) (c.ly (at' + 1 + a.nr) bh) := by
      have := Seg.right (xs := a.ly (at' + 1) bh) s0
      rw [B.ly_len] at this; exact this
    by_cases h : n < a.ofs
    · obtain ⟨ps, r1, p, e, m⟩ := i1 (by first | exact al.1 | exact al.2.2.1) n h (at' + 1) bh (by omega) (by omega) b0 b1 s1
      refine ⟨_ :: ps, ?_, p, ?_, List.mem_cons_of_mem _ m⟩
      · simp only [B.led, if_pos h]
        exact .cons (m := 2) (tl := [.int (a.bg (at' + 1) bh), .int (c.bg (at' + 1 + a.nr) bh)]) ⟨by first | exact .eith | exact .take _ _ al.1, a0, sg.head, rfl, by decide, rfl, g1.1, g1.2⟩ r1
      · simp only [B.ofp]; rw [List.getElem?_append_left (by rw [B.ofp_len]; exact h)]; exact e
    · obtain ⟨ps, r1, p, e, m⟩ := i2 (by first | exact al.2.2.2 | exact al.2) (n - a.ofs) (by omega) (at' + 1 + a.nr) bh (by omega) (by omega) b0 b1 s2
      refine ⟨_ :: ps, ?_, p, ?_, List.mem_cons_of_mem _ m⟩
      · simp only [B.led, if_neg h]
        exact .cons (m := 2) (tl := [.int (a.bg (at' + 1) bh), .int (c.bg (at' + 1 + a.nr) bh)]) ⟨by first | exact .eith | exact .take _ _ al.1, a0, sg.head, rfl, by decide, rfl, g2.1, g2.2⟩ r1
      · simp only [B.ofp]; rw [List.getElem?_append_right (by rw [B.ofp_len]; omega), B.ofp_len]; exact e
/-! ### rows of oftens -/
def isO : D → Bool
  | .tup (.str s :: _) => decide (s = Str.ofString "often")
  | _ => false
def offs (at' : Int) : List D → List Int
  | [] => []
  | x :: r => if isO x then at' :: offs (at' + 1) r else offs (at' + 1) r
theorem offs_app : ∀ (xs ys : List D) (at' : Int), offs at' (xs ++ ys) = offs at' xs ++ offs (at' + xs.length) ys
  | [], ys, at' => by simp [offs]
  | x :: r, ys, at' => by
    simp only [List.cons_append, offs, List.length_cons, offs_app r ys]
    rw [show at' + ((r.length + 1 : Nat) : Int) = at' + 1 + r.length by omega]
    split <;> rfl
theorem ofp_offs (b : B) : ∀ at' bh : Int, offs at' (b.ly at' bh) = b.ofp at' := by
  have w : ∀ {s : String} {tl : List D}, s ≠ "often" → isO (.tup (.str (Str.ofString s) :: tl)) = false := fun {s tl} h => by
    show decide (Str.ofString s = Str.ofString "often") = false
    rw [decide_eq_false]; rw [ofS_inj]; exact h
  induction b <;> intro at' bh <;> simp only [B.ly, B.ofp, offs, offs_app, B.ly_len, *]
  case oft a i1 =>
    exact if_pos (show decide (Str.ofString "often" = Str.ofString "often") = true from decide_eq_true rfl)
  all_goals rw [w (by decide)]; rfl
theorem row_kind (b : B) : ∀ at' bh : Int, ∀ r ∈ b.ly at' bh, ∃ (s : String) (tl : List D), r = .tup (.str (Str.ofString s) :: tl) := by
  induction b <;> intro at' bh r hr <;> simp only [B.ly, List.mem_cons, List.mem_append, List.not_mem_nil, or_false] at hr
  case thn a b i1 i2 =>
    rcases hr with hr | hr
    · exact i1 _ _ r hr
    · exact i2 _ _ r hr
  case take j n a b i1 i2 =>
    rcases hr with rfl | hr | hr
    · exact ⟨_, _, rfl⟩
    · exact i1 _ _ r hr
    · exact i2 _ _ r hr
  case eith a b i1 i2 =>
    rcases hr with rfl | hr | hr
    · exact ⟨_, _, rfl⟩
    · exact i1 _ _ r hr
    · exact i2 _ _ r hr
  case oft a i1 =>
    rcases hr with rfl | hr
    · exact ⟨_, _, rfl⟩
    · exact i1 _ _ r hr
  all_goals (subst hr; exact ⟨_, _, rfl⟩)
theorem ch_kind (b : B) : ∀ r ∈ b.ch, ∃ (s : String) (tl : List D), r = .tup (.str (Str.ofString s) :: tl) := fun r hr => by
  unfold B.ch at hr
  rcases List.mem_append.mp hr with hr | hr
  · exact row_kind b _ _ r hr
  · rw [List.mem_singleton.mp hr]; exact ⟨_, _, rfl⟩
theorem ch_offs (b : B) : offs 0 b.ch = b.ofp 0 := by
  unfold B.ch
  rw [offs_app, ofp_offs]
  have : ∀ z : Int, offs z [.tup [.str "end"]] = [] := fun z => by
    show (if decide (Str.ofString "end" = Str.ofString "often") = true then _ else _) = _
    rw [if_neg (by rw [decide_eq_true_eq, ofS_inj]; decide)]; rfl
  rw [this, List.append_nil]
theorem filt_offs : ∀ (xs : List D) (k : Nat), ((List.range' k xs.length).filter (fun i => ((xs[i - k]?).map isO).getD false)).map (fun i : Nat => ((i : Int))) = offs k xs
  | [], k => rfl
  | x :: r, k => by
    have ih := filt_offs r (k + 1)
    rw [List.length_cons, List.range'_succ, List.filter_cons]
    have e0 : (((x :: r)[k - k]?).map isO).getD false = isO x := by rw [Nat.sub_self]; rfl
    have e1 : (List.range' (k + 1) r.length).filter (fun i => (((x :: r)[i - k]?).map isO).getD false) = (List.range' (k + 1) r.length).filter (fun i => ((r[i - (k + 1)]?).map isO).getD false) := by
      apply List.filter_congr
      intro i hi
      have := List.mem_range'_1.mp hi
      rw [show i - k = (i - (k + 1)) + 1 by omega, List.getElem?_cons_succ]
    simp only [e0, e1]
    show _ = if isO x then _ else _
    have e2 : ((k + 1 : Nat) : Int) = (k : Int) + 1 := by omega
    rw [← e2]
    cases isO x
    · simp only [Bool.false_eq_true, if_false]; exact ih
    · simp only [if_true, List.map_cons]; rw [ih]
end J
/-! S15: things that are nearly traces. -/
namespace J
open PySem L2
/-- numbers and tuples: no tuple of more than m things, no more than k deep -/
inductive Pw (m : Nat) : Nat → D → Prop
  | int {k : Nat} (i : Int) : Pw m k (.int i)
  | tup {k : Nat} {ds : List D} (hl : ds.length ≤ m) (h : ∀ d ∈ ds, Pw m k d) : Pw m (k + 1) (.tup ds)
theorem Pw.mono {m m' k k' : Nat} {d : D} (h : Pw m k d) (hm : m ≤ m') (hk : k ≤ k') : Pw m' k' d := by
  induction h generalizing k' with
  | int i => exact .int i
  | tup hl h ih =>
    obtain ⟨q, rfl⟩ : ∃ q, k' = q + 1 := ⟨k' - 1, by omega⟩
    exact .tup (by omega) fun d hd => ih d hd (by omega)
theorem Pw.pl {m k : Nat} {d : D} (h : Pw m k d) (hm : m ≤ 1000000) : Pl k d := by
  induction h with
  | int i => exact .int i
  | tup hl h ih => exact .tup (by omega) ih
theorem Pw.tup' {m k : Nat} {ds : List D} (h0 : 0 < k) (hl : ds.length ≤ m) (h : ∀ d ∈ ds, Pw m (k - 1) d) : Pw m k (.tup ds) := by
  obtain ⟨q, rfl⟩ : ∃ q, k = q + 1 := ⟨k - 1, by omega⟩
  exact .tup hl h
theorem Tt.its_pw (m : Nat) (t : Tt) : t.gc + 2 ≤ m → ∀ d ∈ t.its, Pw m (t.dh - 1) d := by
  have tp : ∀ (t : Tt), t.gc + 2 ≤ m → (∀ d ∈ t.its, Pw m (t.dh - 1) d) → Pw m t.dh t.d := fun t h1 h2 => by
    have := t.dh_pos
    have h3 := t.its_len
    exact .tup' (by omega) (by omega) h2
  induction t <;> intro hg d hd <;> simp only [Tt.its, List.mem_cons, List.not_mem_nil, or_false] at hd <;> simp only [Tt.gc] at hg <;> simp only [Tt.dh]
  case two a b i1 i2 =>
    rcases hd with rfl | rfl
    · exact (tp a (by omega) (i1 (by omega))).mono (Nat.le_refl _) (by omega)
    · exact (tp b (by omega) (i2 (by omega))).mono (Nat.le_refl _) (by omega)
  case sd k t i1 =>
    rcases hd with rfl | rfl
    · exact .int _
    · exact (tp t (by omega) (i1 (by omega))).mono (Nat.le_refl _) (by omega)
  case go n t r i1 i2 =>
    rcases hd with rfl | hd
    · have : Pw m (t.dh + 1) (.tup [.int n, t.d]) := .tup (by simp; omega) fun d hd => by
        simp only [List.mem_cons, List.not_mem_nil, or_false] at hd
        rcases hd with rfl | rfl
        · exact .int _
        · exact tp t (by omega) (i1 (by omega))
      exact this.mono (Nat.le_refl _) (by omega)
    · exact (i2 (by omega) d hd).mono (Nat.le_refl _) (by omega)
theorem tr_pw {m : Nat} {b : B} {t : Tt} (h : IsTr b t) (hg : t.gc + 2 ≤ m) : Pw m (2 * b.dp + 1) t.d := by
  have := t.dh_pos
  have h3 := t.its_len
  have h4 := tr_dh t b h
  have : Pw m t.dh t.d := .tup' (by omega) (by omega) (t.its_pw m hg)
  exact this.mono (Nat.le_refl _) h4
/-! ### counted -/
mutual
def cntD : D → Int
  | .tup ds => 1 + cntDs ds
  | _ => 1
def cntDs : List D → Int
  | [] => 0
  | d :: r => cntD d + cntDs r
end
theorem cntDs_sum : ∀ ds : List D, (ds.map cntD).sum = cntDs ds
  | [] => rfl
  | d :: r => by rw [List.map_cons, List.sum_cons, cntDs_sum r]; rfl
theorem cnt_pos {m k : Nat} {d : D} (h : Pw m k d) : 1 ≤ cntD d ∧ cntD d ≤ ((m + 1) ^ (k + 1) : Nat) := by
  induction h with
  | @int k i => exact ⟨by show (1 : Int) ≤ 1; decide, by show (1 : Int) ≤ _; have := Nat.pow_pos (n := k + 1) (show 0 < m + 1 by omega); omega⟩
  | @tup k ds hl h ih =>
    have key : ∀ ds : List D, (∀ d ∈ ds, 1 ≤ cntD d ∧ cntD d ≤ ((m + 1) ^ (k + 1) : Nat)) → 0 ≤ cntDs ds ∧ cntDs ds ≤ ((ds.length * (m + 1) ^ (k + 1) : Nat) : Int) := by
      intro ds
      induction ds with
      | nil => intro _; exact ⟨by show (0 : Int) ≤ 0; decide, by show (0 : Int) ≤ _; omega⟩
      | cons a r ih2 =>
        intro hh
        have h1 := hh a List.mem_cons_self
        have h2 := ih2 fun d hd => hh d (List.mem_cons_of_mem _ hd)
        have e : cntDs (a :: r) = cntD a + cntDs r := rfl
        rw [e, List.length_cons, Nat.add_mul]
        omega
    have := key ds ih
    have e : cntD (.tup ds) = 1 + cntDs ds := rfl
    have h3 : ds.length * (m + 1) ^ (k + 1) ≤ m * (m + 1) ^ (k + 1) := Nat.mul_le_mul_right _ hl
    have h4 : (m + 1) ^ (k + 1 + 1) = m * (m + 1) ^ (k + 1) + (m + 1) ^ (k + 1) := by rw [Nat.pow_succ, Nat.mul_comm, Nat.add_mul, Nat.one_mul]
    have h5 := Nat.pow_pos (n := k + 1) (show 0 < m + 1 by omega)
    rw [e, h4]; omega
theorem l_count_ok {m : Nat} (hm : m ≤ 1000) : ∀ (k : Nat) (d : D), Pw m k d → ∀ K, k < K → callP U G K 24 [d] = M.pure (.v (.int (cntD d))) := by
  intro k
  induction k with
  | zero =>
    intro d hp K hK
    refine pure_of fun μ Q q => ?_
    obtain ⟨K, rfl⟩ := kS hK
    rw [c_l_count]; unfold b_l_count
    cases hp with
    | int i => simp -dsimp (disch := omega) only [ev, ofS_inj, String.reduceEq, Int.reduceNeg, decide_true, decide_false, Bool.not_true, Bool.not_false, Bool.not_eq_true, true_or, or_true, or_false, false_or, true_and, and_true, and_false, false_and, or_self, and_self]; exact q
  | succ k ih =>
    intro d hp K hK
    refine pure_of fun μ Q q => ?_
    obtain ⟨K, rfl⟩ := kS hK
    rw [c_l_count]; unfold b_l_count
    cases hp with
    | int i => simp -dsimp (disch := omega) only [ev, ofS_inj, String.reduceEq, Int.reduceNeg, decide_true, decide_false, Bool.not_true, Bool.not_false, Bool.not_eq_true, true_or, or_true, or_false, false_or, true_and, and_true, and_false, false_and, or_self, and_self]; exact q
    | @tup _ ds hl h =>
      simp -dsimp (disch := omega) only [ev, ofS_inj, String.reduceEq, Int.reduceNeg, decide_true, decide_false, Bool.not_true, Bool.not_false, Bool.not_eq_true, true_or, or_true, or_false, false_or, true_and, and_true, and_false, false_and, or_self, and_self]
      rw [cmp_mapD (h := fun a => .int (cntD a)) (by omega) fun a ha R hR => by
        simp -dsimp (disch := omega) only [ih a (h a ha) K (by omega), wp_pure, ev, ofS_inj, String.reduceEq, Int.reduceNeg, decide_true, decide_false, Bool.not_true, Bool.not_false, Bool.not_eq_true, true_or, or_true, or_false, false_or, true_and, and_true, and_false, false_and, or_self, and_self]
        exact hR]
      simp -dsimp (disch := omega) only [ev, ofS_inj, String.reduceEq, Int.reduceNeg, decide_true, decide_false, Bool.not_true, Bool.not_false, Bool.not_eq_true, true_or, or_true, or_false, false_or, true_and, and_true, and_false, false_and, or_self, and_self]
      rw [cntDs_sum]
      exact q
/-! ### the law's own test -/
theorem cm_eqnil {k : Nat} {ds : List D} {kb : Bool → Prop} (h : Pl k (.tup ds)) (hk : k ≤ 64) : Cm .eq (.tup ds) (.tup []) kb ↔ kb ds.isEmpty := by
  rw [cm_eq (shp_pl h hk) rfl]
  cases ds <;> exact Iff.rfl
theorem in_i2 {x a b : Int} {kb : Bool → Prop} : In (.int x) (.tup [.int a, .int b]) kb ↔ kb (decide (x = a) || decide (x = b)) := by
  unfold In; simp only [inD, isFlat, List.all_cons, List.all_nil, Bool.and_self, and_self, if_true, List.any_cons, List.any_nil, eqD_int, Bool.or_false]
  simp only [eq_comm]
theorem lno_ok {k : Nat} {d : D} (hp : Pl k d) {K : Nat} (hK : 0 < K) : callP U G K 22 [d] = M.pure (.v (.bl (isIntD d))) := by
  refine pure_of fun μ Q q => ?_
  obtain ⟨K, rfl⟩ := kS hK
  rw [c_l_number]; unfold b_l_number
  cases hp <;> (simp -dsimp (disch := omega) only [ev, ofS_inj, String.reduceEq, Int.reduceNeg, decide_true, decide_false, Bool.not_true, Bool.not_false, Bool.not_eq_true, true_or, or_true, or_false, false_or, true_and, and_true, and_false, false_and, or_self, and_self]; try exact q)
theorem lis_ok (b : B) : ∀ K, b.dp + 1 < K → ∀ k d, k ≤ 64 → Pl k d → callP U G K 23 [b.d, d] = M.pure (.v (.bl (tchk b d))) := by
  induction b <;> (intro K hK k d hk hp; refine pure_of fun μ Q q => ?_; obtain ⟨K, rfl⟩ := kS hK; try simp only [B.dp] at hK; rw [c_l_is]; unfold b_l_is)
  case oft a i1 =>
    cases hp with
    | int i => simp -dsimp (disch := omega) only [ev, ofS_inj, String.reduceEq, Int.reduceNeg, decide_true, decide_false, Bool.not_true, Bool.not_false, Bool.not_eq_true, true_or, or_true, or_false, false_or, true_and, and_true, and_false, false_and, or_self, and_self]; exact q
    | str h => simp -dsimp (disch := omega) only [ev, ofS_inj, String.reduceEq, Int.reduceNeg, decide_true, decide_false, Bool.not_true, Bool.not_false, Bool.not_eq_true, true_or, or_true, or_false, false_or, true_and, and_true, and_false, false_and, or_self, and_self]; exact q
    | @tup k ds hl h =>
      simp -dsimp (disch := omega) only [B.d, ev, ofS_inj, String.reduceEq, Int.reduceNeg, decide_true, decide_false, Bool.not_true, Bool.not_false, Bool.not_eq_true, true_or, or_true, or_false, false_or, true_and, and_true, and_false, false_and, or_self, and_self]
      refine each_inv (fun r ρ μ' => ∃ a2, (∀ d ∈ r, Pl k d) ∧ tchk (.oft a) (.tup ds) = r.all (gchk (tchk a)) ∧ ρ = [.val (.tup [.str "often", a.d]), .val (.tup ds), a2] ∧ μ' = μ) ?_ ?_ ⟨_, h, rfl, rfl, rfl⟩
      · rintro g r ρ μ' ⟨a2, hr, e, rfl, rfl⟩
        have hg := hr g List.mem_cons_self
        have hr' : ∀ d ∈ r, Pl k d := fun d hd => hr d (List.mem_cons_of_mem _ hd)
        rw [List.all_cons] at e
        have no : gchk (tchk a) g = false → Q (.v (.bl false)) μ' := fun z => by rw [e, z] at q; exact q
        have yes : gchk (tchk a) g = true → tchk (.oft a) (.tup ds) = r.all (gchk (tchk a)) := fun z => by rw [e, z]; rfl
        cases hg with
        | int i => simp -dsimp (disch := omega) only [ev, ofS_inj, String.reduceEq, Int.reduceNeg, decide_true, decide_false, Bool.not_true, Bool.not_false, Bool.not_eq_true, true_or, or_true, or_false, false_or, true_and, and_true, and_false, false_and, or_self, and_self]; exact no rfl
        | str h => simp -dsimp (disch := omega) only [ev, ofS_inj, String.reduceEq, Int.reduceNeg, decide_true, decide_false, Bool.not_true, Bool.not_false, Bool.not_eq_true, true_or, or_true, or_false, false_or, true_and, and_true, and_false, false_and, or_self, and_self]; exact no rfl
        | @tup k ds2 hl2 h2 =>
          match ds2, h2, no, yes with
          | [], _, no, _ => simp -dsimp (disch := omega) only [ln_nil2, ev, ofS_inj, String.reduceEq, Int.reduceNeg, decide_true, decide_false, Bool.not_true, Bool.not_false, Bool.not_eq_true, true_or, or_true, or_false, false_or, true_and, and_true, and_false, false_and, or_self, and_self]; exact no rfl
          | [x], _, no, _ => simp -dsimp (disch := omega) only [ln_1, ev, ofS_inj, String.reduceEq, Int.reduceNeg, decide_true, decide_false, Bool.not_true, Bool.not_false, Bool.not_eq_true, true_or, or_true, or_false, false_or, true_and, and_true, and_false, false_and, or_self, and_self]; exact no rfl
          | x :: y :: z :: r, _, no, _ => simp -dsimp (disch := omega) only [ln_3, ev, ofS_inj, String.reduceEq, Int.reduceNeg, decide_true, decide_false, Bool.not_true, Bool.not_false, Bool.not_eq_true, true_or, or_true, or_false, false_or, true_and, and_true, and_false, false_and, or_self, and_self]; exact no rfl
          | [x, y], h2, no, yes =>
            have hx := h2 x (by simp)
            have hy := h2 y (by simp)
            have eg : gchk (tchk a) (.tup [x, y]) = (oneI x && tchk a y) := rfl
            rw [eg] at no yes
            simp -dsimp (disch := omega) only [ln_2, lno_ok hx (show 0 < K by omega), wp_pure, ev, ofS_inj, String.reduceEq, Int.reduceNeg, decide_true, decide_false, Bool.not_true, Bool.not_false, Bool.not_eq_true, true_or, or_true, or_false, false_or, true_and, and_true, and_false, false_and, or_self, and_self]
            cases hx with
            | str _ => simp -dsimp (disch := omega) only [isIntD, ev, ofS_inj, String.reduceEq, Int.reduceNeg, decide_true, decide_false, Bool.not_true, Bool.not_false, Bool.not_eq_true, true_or, or_true, or_false, false_or, true_and, and_true, and_false, false_and, or_self, and_self]; exact no rfl
            | tup _ _ => simp -dsimp (disch := omega) only [isIntD, ev, ofS_inj, String.reduceEq, Int.reduceNeg, decide_true, decide_false, Bool.not_true, Bool.not_false, Bool.not_eq_true, true_or, or_true, or_false, false_or, true_and, and_true, and_false, false_and, or_self, and_self]; exact no rfl
            | int i =>
              have eo : oneI (.int i) = decide (1 ≤ i) := rfl
              rw [eo] at no yes
              simp -dsimp (disch := omega) only [isIntD, ev, ofS_inj, String.reduceEq, Int.reduceNeg, decide_true, decide_false, Bool.not_true, Bool.not_false, Bool.not_eq_true, true_or, or_true, or_false, false_or, true_and, and_true, and_false, false_and, or_self, and_self]
              refine br_d (fun c => ?_) fun c => ?_
              · simp -dsimp (disch := omega) only [ev, ofS_inj, String.reduceEq, Int.reduceNeg, decide_true, decide_false, Bool.not_true, Bool.not_false, Bool.not_eq_true, true_or, or_true, or_false, false_or, true_and, and_true, and_false, false_and, or_self, and_self]
                exact no (by rw [decide_eq_false (show ¬ (1 ≤ i) by omega)]; rfl)
              · rw [decide_eq_true (show 1 ≤ i by omega)] at no yes
                simp -dsimp (disch := omega) only [i1 K (by omega) _ _ (by omega) hy, wp_pure, ev, ofS_inj, String.reduceEq, Int.reduceNeg, decide_true, decide_false, Bool.not_true, Bool.not_false, Bool.not_eq_true, true_or, or_true, or_false, false_or, true_and, and_true, and_false, false_and, or_self, and_self]
                cases et : tchk a y with
                | true =>
                  rw [et] at yes
                  simp -dsimp (disch := omega) only [ev, ofS_inj, String.reduceEq, Int.reduceNeg, decide_true, decide_false, Bool.not_true, Bool.not_false, Bool.not_eq_true, true_or, or_true, or_false, false_or, true_and, and_true, and_false, false_and, or_self, and_self]
                  exact ⟨_, hr', yes rfl, rfl⟩
                | false =>
                  rw [et] at no
                  simp -dsimp (disch := omega) only [ev, ofS_inj, String.reduceEq, Int.reduceNeg, decide_true, decide_false, Bool.not_true, Bool.not_false, Bool.not_eq_true, true_or, or_true, or_false, false_or, true_and, and_true, and_false, false_and, or_self, and_self]
                  exact no rfl
      · rintro ρ μ' ⟨a2, hr, e, rfl, rfl⟩
        simp -dsimp (disch := omega) only [ev, ofS_inj, String.reduceEq, Int.reduceNeg, decide_true, decide_false, Bool.not_true, Bool.not_false, Bool.not_eq_true, true_or, or_true, or_false, false_or, true_and, and_true, and_false, false_and, or_self, and_self]
        rw [e] at q
        exact q
  case thn a b i1 i2 =>
    cases hp with
    | int i => simp -dsimp (disch := omega) only [ev, ofS_inj, String.reduceEq, Int.reduceNeg, decide_true, decide_false, Bool.not_true, Bool.not_false, Bool.not_eq_true, true_or, or_true, or_false, false_or, true_and, and_true, and_false, false_and, or_self, and_self]; exact q
    | str h => simp -dsimp (disch := omega) only [ev, ofS_inj, String.reduceEq, Int.reduceNeg, decide_true, decide_false, Bool.not_true, Bool.not_false, Bool.not_eq_true, true_or, or_true, or_false, false_or, true_and, and_true, and_false, false_and, or_self, and_self]; exact q
    | tup hl h =>
      rename_i k ds
      match ds, h with
      | [], _ => simp -dsimp (disch := omega) only [B.d, ln_nil2, ev, ofS_inj, String.reduceEq, Int.reduceNeg, decide_true, decide_false, Bool.not_true, Bool.not_false, Bool.not_eq_true, true_or, or_true, or_false, false_or, true_and, and_true, and_false, false_and, or_self, and_self]; exact q
      | [x], _ => simp -dsimp (disch := omega) only [B.d, ln_1, ev, ofS_inj, String.reduceEq, Int.reduceNeg, decide_true, decide_false, Bool.not_true, Bool.not_false, Bool.not_eq_true, true_or, or_true, or_false, false_or, true_and, and_true, and_false, false_and, or_self, and_self]; exact q
      | x :: y :: z :: r, _ => simp -dsimp (disch := omega) only [B.d, ln_3, ev, ofS_inj, String.reduceEq, Int.reduceNeg, decide_true, decide_false, Bool.not_true, Bool.not_false, Bool.not_eq_true, true_or, or_true, or_false, false_or, true_and, and_true, and_false, false_and, or_self, and_self]; exact q
      | [x, y], h =>
        have q : Q (.v (.bl (tchk a x && tchk b y))) μ := q
        simp -dsimp (disch := omega) only [B.d, ln_2, i1 K (by omega) _ _ (by omega) (h x (by simp)), wp_pure, ev, ofS_inj, String.reduceEq, Int.reduceNeg, decide_true, decide_false, Bool.not_true, Bool.not_false, Bool.not_eq_true, true_or, or_true, or_false, false_or, true_and, and_true, and_false, false_and, or_self, and_self]
        cases e : tchk a x with
        | true => simp -dsimp (disch := omega) only [i2 K (by omega) _ _ (by omega) (h y (by simp)), wp_pure, ev, ofS_inj, String.reduceEq, Int.reduceNeg, decide_true, decide_false, Bool.not_true, Bool.not_false, Bool.not_eq_true, true_or, or_true, or_false, false_or, true_and, and_true, and_false, false_and, or_self, and_self]; rw [e] at q; exact q
        | false => simp -dsimp (disch := omega) only [ev, ofS_inj, String.reduceEq, Int.reduceNeg, decide_true, decide_false, Bool.not_true, Bool.not_false, Bool.not_eq_true, true_or, or_true, or_false, false_or, true_and, and_true, and_false, false_and, or_self, and_self]; rw [e] at q; exact q
  case eith a b i1 i2 =>
    cases hp with
    | int i => simp -dsimp (disch := omega) only [ev, ofS_inj, String.reduceEq, Int.reduceNeg, decide_true, decide_false, Bool.not_true, Bool.not_false, Bool.not_eq_true, true_or, or_true, or_false, false_or, true_and, and_true, and_false, false_and, or_self, and_self]; exact q
    | str h => simp -dsimp (disch := omega) only [ev, ofS_inj, String.reduceEq, Int.reduceNeg, decide_true, decide_false, Bool.not_true, Bool.not_false, Bool.not_eq_true, true_or, or_true, or_false, false_or, true_and, and_true, and_false, false_and, or_self, and_self]; exact q
    | tup hl h =>
      rename_i k ds
      match ds, h with
      | [], _ => simp -dsimp (disch := omega) only [B.d, ln_nil2, ev, ofS_inj, String.reduceEq, Int.reduceNeg, decide_true, decide_false, Bool.not_true, Bool.not_false, Bool.not_eq_true, true_or, or_true, or_false, false_or, true_and, and_true, and_false, false_and, or_self, and_self]; exact q
      | [x], _ => simp -dsimp (disch := omega) only [B.d, ln_1, ev, ofS_inj, String.reduceEq, Int.reduceNeg, decide_true, decide_false, Bool.not_true, Bool.not_false, Bool.not_eq_true, true_or, or_true, or_false, false_or, true_and, and_true, and_false, false_and, or_self, and_self]; exact q
      | x :: y :: z :: r, _ => simp -dsimp (disch := omega) only [B.d, ln_3, ev, ofS_inj, String.reduceEq, Int.reduceNeg, decide_true, decide_false, Bool.not_true, Bool.not_false, Bool.not_eq_true, true_or, or_true, or_false, false_or, true_and, and_true, and_false, false_and, or_self, and_self]; exact q
      | [x, y], h =>
        have hx := h x (by simp)
        have hy := h y (by simp)
        simp -dsimp (disch := omega) only [B.d, ln_2, lno_ok hx (show 0 < K by omega), wp_pure, ev, ofS_inj, String.reduceEq, Int.reduceNeg, decide_true, decide_false, Bool.not_true, Bool.not_false, Bool.not_eq_true, true_or, or_true, or_false, false_or, true_and, and_true, and_false, false_and, or_self, and_self]
        cases hx with
        | str _ => simp -dsimp (disch := omega) only [isIntD, ev, ofS_inj, String.reduceEq, Int.reduceNeg, decide_true, decide_false, Bool.not_true, Bool.not_false, Bool.not_eq_true, true_or, or_true, or_false, false_or, true_and, and_true, and_false, false_and, or_self, and_self]; exact q
        | tup _ _ => simp -dsimp (disch := omega) only [isIntD, ev, ofS_inj, String.reduceEq, Int.reduceNeg, decide_true, decide_false, Bool.not_true, Bool.not_false, Bool.not_eq_true, true_or, or_true, or_false, false_or, true_and, and_true, and_false, false_and, or_self, and_self]; exact q
        | int i =>
          simp -dsimp (disch := omega) only [isIntD, in_i2, ev, ofS_inj, String.reduceEq, Int.reduceNeg, decide_true, decide_false, Bool.not_true, Bool.not_false, Bool.not_eq_true, true_or, or_true, or_false, false_or, true_and, and_true, and_false, false_and, or_self, and_self]
          have q : Q (.v (.bl (if i = 0 then tchk a y else if i = 1 then tchk b y else false))) μ := q
          by_cases h0 : i = 0
          · subst h0
            simp -dsimp (disch := omega) only [i1 K (by omega) _ _ (by omega) hy, wp_pure, Bool.true_or, ev, ofS_inj, String.reduceEq, Int.reduceNeg, decide_true, decide_false, Bool.not_true, Bool.not_false, Bool.not_eq_true, true_or, or_true, or_false, false_or, true_and, and_true, and_false, false_and, or_self, and_self]
            exact q
          by_cases h1 : i = 1
          · subst h1
            simp -dsimp (disch := omega) only [i2 K (by omega) _ _ (by omega) hy, wp_pure, Bool.or_true, ev, ofS_inj, String.reduceEq, Int.reduceNeg, decide_true, decide_false, Bool.not_true, Bool.not_false, Bool.not_eq_true, true_or, or_true, or_false, false_or, true_and, and_true, and_false, false_and, or_self, and_self]
            exact q
          rw [decide_eq_false h0, decide_eq_false h1]
          rw [if_neg h0, if_neg h1] at q
          simp -dsimp (disch := omega) only [Bool.or_self, ev, ofS_inj, String.reduceEq, Int.reduceNeg, decide_true, decide_false, Bool.not_true, Bool.not_false, Bool.not_eq_true, true_or, or_true, or_false, false_or, true_and, and_true, and_false, false_and, or_self, and_self]
          exact q
  all_goals first
    | (rename_i j z a b i1 i2
       cases hp with
       | int i => simp -dsimp (disch := omega) only [ev, ofS_inj, String.reduceEq, Int.reduceNeg, decide_true, decide_false, Bool.not_true, Bool.not_false, Bool.not_eq_true, true_or, or_true, or_false, false_or, true_and, and_true, and_false, false_and, or_self, and_self]; exact q
       | str h => simp -dsimp (disch := omega) only [ev, ofS_inj, String.reduceEq, Int.reduceNeg, decide_true, decide_false, Bool.not_true, Bool.not_false, Bool.not_eq_true, true_or, or_true, or_false, false_or, true_and, and_true, and_false, false_and, or_self, and_self]; exact q
       | tup hl h =>
         rename_i k ds
         match ds, h with
         | [], _ => simp -dsimp (disch := omega) only [B.d, ln_nil2, ev, ofS_inj, String.reduceEq, Int.reduceNeg, decide_true, decide_false, Bool.not_true, Bool.not_false, Bool.not_eq_true, true_or, or_true, or_false, false_or, true_and, and_true, and_false, false_and, or_self, and_self]; exact q
         | [x], _ => simp -dsimp (disch := omega) only [B.d, ln_1, ev, ofS_inj, String.reduceEq, Int.reduceNeg, decide_true, decide_false, Bool.not_true, Bool.not_false, Bool.not_eq_true, true_or, or_true, or_false, false_or, true_and, and_true, and_false, false_and, or_self, and_self]; exact q
         | x :: y :: z :: r, _ => simp -dsimp (disch := omega) only [B.d, ln_3, ev, ofS_inj, String.reduceEq, Int.reduceNeg, decide_true, decide_false, Bool.not_true, Bool.not_false, Bool.not_eq_true, true_or, or_true, or_false, false_or, true_and, and_true, and_false, false_and, or_self, and_self]; exact q
         | [x, y], h =>
           have hx := h x (by simp)
           have hy := h y (by simp)
           simp -dsimp (disch := omega) only [B.d, ln_2, lno_ok hx (show 0 < K by omega), wp_pure, ev, ofS_inj, String.reduceEq, Int.reduceNeg, decide_true, decide_false, Bool.not_true, Bool.not_false, Bool.not_eq_true, true_or, or_true, or_false, false_or, true_and, and_true, and_false, false_and, or_self, and_self]
           cases hx with
           | str _ => simp -dsimp (disch := omega) only [isIntD, ev, ofS_inj, String.reduceEq, Int.reduceNeg, decide_true, decide_false, Bool.not_true, Bool.not_false, Bool.not_eq_true, true_or, or_true, or_false, false_or, true_and, and_true, and_false, false_and, or_self, and_self]; exact q
           | tup _ _ => simp -dsimp (disch := omega) only [isIntD, ev, ofS_inj, String.reduceEq, Int.reduceNeg, decide_true, decide_false, Bool.not_true, Bool.not_false, Bool.not_eq_true, true_or, or_true, or_false, false_or, true_and, and_true, and_false, false_and, or_self, and_self]; exact q
           | int i =>
             simp -dsimp (disch := omega) only [isIntD, in_i2, ev, ofS_inj, String.reduceEq, Int.reduceNeg, decide_true, decide_false, Bool.not_true, Bool.not_false, Bool.not_eq_true, true_or, or_true, or_false, false_or, true_and, and_true, and_false, false_and, or_self, and_self]
             have q : Q (.v (.bl (if i = 0 then tchk a y else if i = 1 then tchk b y else false))) μ := q
             by_cases h0 : i = 0
             · subst h0
               simp -dsimp (disch := omega) only [i1 K (by omega) _ _ (by omega) hy, wp_pure, Bool.true_or, ev, ofS_inj, String.reduceEq, Int.reduceNeg, decide_true, decide_false, Bool.not_true, Bool.not_false, Bool.not_eq_true, true_or, or_true, or_false, false_or, true_and, and_true, and_false, false_and, or_self, and_self]
               exact q
             by_cases h1 : i = 1
             · subst h1
               simp -dsimp (disch := omega) only [i2 K (by omega) _ _ (by omega) hy, wp_pure, Bool.or_true, ev, ofS_inj, String.reduceEq, Int.reduceNeg, decide_true, decide_false, Bool.not_true, Bool.not_false, Bool.not_eq_true, true_or, or_true, or_false, false_or, true_and, and_true, and_false, false_and, or_self, and_self]
               exact q
             rw [decide_eq_false h0, decide_eq_false h1]
             rw [if_neg h0, if_neg h1] at q
             simp -dsimp (disch := omega) only [Bool.or_self, ev, ofS_inj, String.reduceEq, Int.reduceNeg, decide_true, decide_false, Bool.not_true, Bool.not_false, Bool.not_eq_true, true_or, or_true, or_false, false_or, true_and, and_true, and_false, false_and, or_self, and_self]
             exact q
       done)
    | (cases hp with
       | int i => simp -dsimp (disch := omega) only [ev, ofS_inj, String.reduceEq, Int.reduceNeg, decide_true, decide_false, Bool.not_true, Bool.not_false, Bool.not_eq_true, true_or, or_true, or_false, false_or, true_and, and_true, and_false, false_and, or_self, and_self]; exact q
       | str h => simp -dsimp (disch := omega) only [ev, ofS_inj, String.reduceEq, Int.reduceNeg, decide_true, decide_false, Bool.not_true, Bool.not_false, Bool.not_eq_true, true_or, or_true, or_false, false_or, true_and, and_true, and_false, false_and, or_self, and_self]; exact q
       | @tup k ds hl h =>
         simp -dsimp (disch := omega) only [B.d, cm_eqnil (.tup hl h) hk, ev, ofS_inj, String.reduceEq, Int.reduceNeg, decide_true, decide_false, Bool.not_true, Bool.not_false, Bool.not_eq_true, true_or, or_true, or_false, false_or, true_and, and_true, and_false, false_and, or_self, and_self]
         cases ds <;> exact q)
/-! ### another thing in a place -/
section
variable {n : Nat} {x : Dl n} {R : List Cell} {Q : RV → Sto → Prop} {E : XQ} {m k : Nat}
theorem pw_app {xs ys : List D} {m k : Nat} (h1 : ∀ d ∈ xs, Pw m k d) (h2 : ∀ d ∈ ys, Pw m k d) : ∀ d ∈ xs ++ ys, Pw m k d := fun d hd => (List.mem_append.mp hd).elim (h1 d) (h2 d)
theorem pw_one {y : D} {m k : Nat} (h1 : Pw m k y) : ∀ d ∈ [y], Pw m k d := fun d hd => by rw [List.mem_singleton.mp hd]; exact h1
theorem pw_nil {m k : Nat} (h : 0 < k) : Pw m k (.tup []) := .tup' h (by simp) fun d hd => absurd hd List.not_mem_nil
theorem l_other_ok {d : D} (hp : Pw m k d) (h1 : 1 ≤ m) (hm : m ≤ 1000) {K : Nat} (hK : 1 < K) (q : ∀ (d' : D) (x : Dl n), Pw (m + 1) (k + 2) d' → Q (.v d') (st x R)) : Wp (callP U G K 79 [.ref n, d]) (st x R) Q E := by
  obtain ⟨K, rfl⟩ : ∃ k, K = k + 2 := ⟨K - 2, by omega⟩
  rw [c_l_other]; unfold b_l_other
  cases hp with
  | int i =>
    simp -dsimp (disch := omega) only [ev, ofS_inj, String.reduceEq, Int.reduceNeg, decide_true, decide_false, Bool.not_true, Bool.not_false, Bool.not_eq_true, true_or, or_true, or_false, false_or, true_and, and_true, and_false, false_and, or_self, and_self]
    rw [bn_pow (by decide) (by decide) (by decide), show (10 : Int) ^ (6 : Int).toNat = 10 ^ 6 from rfl]
    simp -dsimp (disch := omega) only [ev, ofS_inj, String.reduceEq, Int.reduceNeg, decide_true, decide_false, Bool.not_true, Bool.not_false, Bool.not_eq_true, true_or, or_true, or_false, false_or, true_and, and_true, and_false, false_and, or_self, and_self]
    refine draw_ok (by first | decide | omega) (by first | decide | omega) fun r x r0 r1 => ?_
    simp -dsimp (disch := omega) only [ev, ofS_inj, String.reduceEq, Int.reduceNeg, decide_true, decide_false, Bool.not_true, Bool.not_false, Bool.not_eq_true, true_or, or_true, or_false, false_or, true_and, and_true, and_false, false_and, or_self, and_self]
    refine ata_ok r0 r1 fun y hy _ => ?_
    simp only [List.mem_cons, List.not_mem_nil, or_false] at hy
    rcases hy with rfl | rfl | rfl | rfl | rfl | rfl | rfl | rfl | rfl | rfl
    all_goals first
      | exact q _ x (.int _)
      | exact q _ x (pw_nil (by omega))
      | exact q _ x (.tup' (by omega) (by simp) (pw_one (.int _)))
  | @tup k ds hl h =>
    have hu : ∀ d ∈ ds, Pw (m + 1) (k + 2) d := fun d hd => (h d hd).mono (by omega) (by omega)
    have hw : Pw (m + 1) (k + 2) (.tup ds) := .tup' (by omega) (by omega) fun d hd => (h d hd).mono (by omega) (by omega)
    simp -dsimp (disch := omega) only [ev, ofS_inj, String.reduceEq, Int.reduceNeg, decide_true, decide_false, Bool.not_true, Bool.not_false, Bool.not_eq_true, true_or, or_true, or_false, false_or, true_and, and_true, and_false, false_and, or_self, and_self]
    rw [bn_addt (by simp only [List.length_cons, List.length_nil]; omega)]
    simp -dsimp (disch := omega) only [ev, ofS_inj, String.reduceEq, Int.reduceNeg, decide_true, decide_false, Bool.not_true, Bool.not_false, Bool.not_eq_true, true_or, or_true, or_false, false_or, true_and, and_true, and_false, false_and, or_self, and_self]
    rw [bn_addt (by simp only [List.length_cons, List.length_nil]; omega)]
    simp -dsimp (disch := omega) only [cut_from (show (0 : Int) ≤ 1 by decide), ev, ofS_inj, String.reduceEq, Int.reduceNeg, decide_true, decide_false, Bool.not_true, Bool.not_false, Bool.not_eq_true, true_or, or_true, or_false, false_or, true_and, and_true, and_false, false_and, or_self, and_self]
    rw [bn_addt (by simp only [List.length_cons, List.length_nil]; omega)]
    simp -dsimp (disch := omega) only [cut_to (show (0 : Int) ≤ 1 by decide), ev, ofS_inj, String.reduceEq, Int.reduceNeg, decide_true, decide_false, Bool.not_true, Bool.not_false, Bool.not_eq_true, true_or, or_true, or_false, false_or, true_and, and_true, and_false, false_and, or_self, and_self]
    rw [bn_addt (by simp only [List.length_take]; omega)]
    simp -dsimp (disch := omega) only [ev, ofS_inj, String.reduceEq, Int.reduceNeg, decide_true, decide_false, Bool.not_true, Bool.not_false, Bool.not_eq_true, true_or, or_true, or_false, false_or, true_and, and_true, and_false, false_and, or_self, and_self]
    rw [bn_addt (by simp only [List.length_cons, List.length_nil]; omega)]
    simp -dsimp (disch := omega) only [ev, ofS_inj, String.reduceEq, Int.reduceNeg, decide_true, decide_false, Bool.not_true, Bool.not_false, Bool.not_eq_true, true_or, or_true, or_false, false_or, true_and, and_true, and_false, false_and, or_self, and_self]
    rw [bn_addl (by simp only [List.length_cons, List.length_nil]; omega)]
    simp -dsimp (disch := omega) only [List.cons_append, List.nil_append, ev, ofS_inj, String.reduceEq, Int.reduceNeg, decide_true, decide_false, Bool.not_true, Bool.not_false, Bool.not_eq_true, true_or, or_true, or_false, false_or, true_and, and_true, and_false, false_and, or_self, and_self]
    refine draw_ok (by simp only [List.length_cons]; omega) (by simp only [List.length_cons, List.length_nil]; omega) fun r x r0 r1 => ?_
    simp -dsimp (disch := omega) only [ev, ofS_inj, String.reduceEq, Int.reduceNeg, decide_true, decide_false, Bool.not_true, Bool.not_false, Bool.not_eq_true, true_or, or_true, or_false, false_or, true_and, and_true, and_false, false_and, or_self, and_self]
    refine ata_ok r0 r1 fun y hy _ => ?_
    have l1 : (ds.take (1 : Int).toNat).length ≤ 1 := by rw [List.length_take]; exact Nat.min_le_left _ _
    have fin : Pw (m + 1) (k + 1 + 2) y := by
      simp only [List.mem_cons, List.not_mem_nil, or_false] at hy
      rcases hy with rfl | rfl | rfl | rfl | rfl | rfl | rfl | rfl | rfl | rfl | rfl | rfl | rfl
      · exact pw_nil (by omega)
      · exact .tup (by simp; omega) (pw_app hu (pw_one (pw_nil (by omega))))
      · exact .tup (by simp; omega) (fun d hd => (List.mem_cons.mp hd).elim (fun e => by rw [e]; exact pw_nil (by omega)) (hu d))
      · exact .tup (by simp; omega) fun d hd => hu d (List.dropLast_subset _ hd)
      · exact .tup (by simp; omega) fun d hd => hu d (List.drop_subset _ _ hd)
      · exact .tup (by simp; omega) fun d hd => hu d (List.mem_reverse.mp hd)
      · exact .tup (by simp; omega) (fun d hd => (List.mem_cons.mp hd).elim (fun e => by rw [e]; exact .int _) (hu d))
      · exact .tup (by simp; omega) fun d hd => by
          simp only [List.mem_cons, List.not_mem_nil, or_false] at hd
          rcases hd with rfl | rfl
          · exact .int _
          · exact hw
      · exact .int _
      · exact .int _
      · exact .tup (by rw [List.length_append]; omega) (pw_app hu fun d hd => hu d (List.take_subset _ _ hd))
      · exact .tup (by simp) (pw_one hw)
      · exact .tup (by simp; omega) (pw_app hu (pw_one (.tup' (by omega) (by simp; omega) fun d hd => by
          simp only [List.mem_cons, List.not_mem_nil, or_false] at hd
          rcases hd with rfl | rfl
          · exact .int _
          · exact pw_nil (by omega))))
    exact q y x fin
variable {l j : Nat}
theorem l_put_ok (h : l = n + 1 + j) (h1 : 1 ≤ m) (hm : m ≤ 1000) : ∀ (k : Nat) (d : D), Pw m k d → ∀ (K : Nat) (z : Int) (x : Dl n) (R : List Cell) (Q : RV → Sto → Prop) (E : XQ), k + 2 < K → R[j]? = some (.lst [.int z]) →
    (∀ (d' : D) (x : Dl n) (w : Int), Pw (m + 1) (k + 2) d' → Q (.v d') (st x (R.set j (.lst [.int w])))) → Wp (callP U G K 80 [.ref n, d, .ref l]) (st x R) Q E := by
  intro k
  induction k with
  | zero =>
    intro d hp K z x R Q E hK hz q
    obtain ⟨K, rfl⟩ : ∃ k, K = k + 2 := ⟨K - 2, by omega⟩
    rw [c_l_put]; unfold b_l_put
    simp -dsimp (disch := omega) only [ix_at h hz, pm_at h hz, ix_at h (set_get hz), ev, ofS_inj, String.reduceEq, Int.reduceNeg, decide_true, decide_false, Bool.not_true, Bool.not_false, Bool.not_eq_true, true_or, or_true, or_false, false_or, true_and, and_true, and_false, false_and, or_self, and_self]
    refine br_d (fun c => ?_) fun c => ?_
    · simp -dsimp (disch := omega) only [ev, ofS_inj, String.reduceEq, Int.reduceNeg, decide_true, decide_false, Bool.not_true, Bool.not_false, Bool.not_eq_true, true_or, or_true, or_false, false_or, true_and, and_true, and_false, false_and, or_self, and_self]
      refine l_other_ok hp h1 hm (by omega) fun d' x hd => ?_
      simp -dsimp (disch := omega) only [ev, ofS_inj, String.reduceEq, Int.reduceNeg, decide_true, decide_false, Bool.not_true, Bool.not_false, Bool.not_eq_true, true_or, or_true, or_false, false_or, true_and, and_true, and_false, false_and, or_self, and_self]
      exact q d' x _ hd
    · cases hp with
      | int i =>
        simp -dsimp (disch := omega) only [ev, ofS_inj, String.reduceEq, Int.reduceNeg, decide_true, decide_false, Bool.not_true, Bool.not_false, Bool.not_eq_true, true_or, or_true, or_false, false_or, true_and, and_true, and_false, false_and, or_self, and_self]
        exact q _ x _ (.int _)
  | succ k ih =>
    intro d hp K z x R Q E hK hz q
    obtain ⟨K, rfl⟩ : ∃ k, K = k + 2 := ⟨K - 2, by omega⟩
    rw [c_l_put]; unfold b_l_put
    simp -dsimp (disch := omega) only [ix_at h hz, pm_at h hz, ix_at h (set_get hz), ev, ofS_inj, String.reduceEq, Int.reduceNeg, decide_true, decide_false, Bool.not_true, Bool.not_false, Bool.not_eq_true, true_or, or_true, or_false, false_or, true_and, and_true, and_false, false_and, or_self, and_self]
    refine br_d (fun c => ?_) fun c => ?_
    · simp -dsimp (disch := omega) only [ev, ofS_inj, String.reduceEq, Int.reduceNeg, decide_true, decide_false, Bool.not_true, Bool.not_false, Bool.not_eq_true, true_or, or_true, or_false, false_or, true_and, and_true, and_false, false_and, or_self, and_self]
      refine l_other_ok hp h1 hm (by omega) fun d' x hd => ?_
      simp -dsimp (disch := omega) only [ev, ofS_inj, String.reduceEq, Int.reduceNeg, decide_true, decide_false, Bool.not_true, Bool.not_false, Bool.not_eq_true, true_or, or_true, or_false, false_or, true_and, and_true, and_false, false_and, or_self, and_self]
      exact q d' x _ hd
    · cases hp with
      | int i =>
        simp -dsimp (disch := omega) only [ev, ofS_inj, String.reduceEq, Int.reduceNeg, decide_true, decide_false, Bool.not_true, Bool.not_false, Bool.not_eq_true, true_or, or_true, or_false, false_or, true_and, and_true, and_false, false_and, or_self, and_self]
        exact q _ x _ (.int _)
      | @tup _ ds hl hd =>
        simp -dsimp (disch := omega) only [ev, ofS_inj, String.reduceEq, Int.reduceNeg, decide_true, decide_false, Bool.not_true, Bool.not_false, Bool.not_eq_true, true_or, or_true, or_false, false_or, true_and, and_true, and_false, false_and, or_self, and_self]
        refine cmp_inv (fun μ => ∃ (x : Dl n) (w : Int), μ = st x (R.set j (.lst [.int w]))) (fun _ o => ∃ d' : D, o = some d' ∧ Pw (m + 1) (k + 2) d') (by omega) ⟨x, _, rfl⟩ ?_ ?_
        · rintro d hd' μ ⟨x, w, rfl⟩
          simp -dsimp (disch := omega) only [ev, ofS_inj, String.reduceEq, Int.reduceNeg, decide_true, decide_false, Bool.not_true, Bool.not_false, Bool.not_eq_true, true_or, or_true, or_false, false_or, true_and, and_true, and_false, false_and, or_self, and_self]
          refine ih d (hd d hd') (K + 1) w x _ _ _ (by omega) (set_get hz) fun d' x w hd2 => ?_
          rw [List.set_set]
          simp -dsimp (disch := omega) only [ev, ofS_inj, String.reduceEq, Int.reduceNeg, decide_true, decide_false, Bool.not_true, Bool.not_false, Bool.not_eq_true, true_or, or_true, or_false, false_or, true_and, and_true, and_false, false_and, or_self, and_self]
          exact ⟨⟨_, _, rfl⟩, d', rfl, hd2⟩
        · rintro os μ ⟨x, w, rfl⟩ h2
          obtain ⟨ts, e1, e2, e3⟩ := all2_ex (f := fun d => d) h2
          rw [e1, List.map_id']
          simp -dsimp (disch := omega) only [ev, ofS_inj, String.reduceEq, Int.reduceNeg, decide_true, decide_false, Bool.not_true, Bool.not_false, Bool.not_eq_true, true_or, or_true, or_false, false_or, true_and, and_true, and_false, false_and, or_self, and_self]
          exact q _ x w (.tup (by omega) e3)
end
/-! ### a comprehension, thing by thing -/
def CiL (C : Calls) (g : GT) (own : List Nat) (t : T) (c : Option J.E) (e : J.E) (ρ : Env) : List D → Sto → (List (Option D) → Sto → Prop) → Prop
  | [], μ, k => k [] μ
  | d :: ds, μ, k => Ci C g own t c e ρ d μ fun o μ1 => CiL C g own t c e ρ ds μ1 fun os μ2 => k (o :: os) μ2
theorem cil_wp {C : Calls} {g : GT} {own : List Nat} {t : T} {c : Option J.E} {e : J.E} {ρ : Env} : ∀ {ds : List D} {μ : Sto} {k : List (Option D) → Sto → Prop}, CiL C g own t c e ρ ds μ k → Wp (mapItems (compF C g own t c e ρ) ds) μ (fun r μ' => ∃ os : List (Option D), os.length = ds.length ∧ r = os.filterMap id ∧ k os μ') nE
  | [], μ, k, h => by
    simp only [mapItems]
    exact wp_pure.mpr ⟨[], rfl, rfl, h⟩
  | d :: ds, μ, k, h => by
    simp only [mapItems]
    rw [wp_bind]
    refine (ci_wp.mp h).mono (fun o μ1 h1 => ?_) fun _ _ q => q
    rw [wp_bind]
    refine (cil_wp h1).mono (fun r μ2 ⟨os, hl, hr, hk⟩ => ?_) fun _ _ q => q
    refine wp_pure.mpr ⟨o :: os, by simp [hl], ?_, hk⟩
    cases o with
    | none => simpa using hr
    | some x => simp [hr]
theorem cmp_ci {C : Calls} {g : GT} {own : List Nat} {t : T} {c : Option J.E} {e : J.E} {ρ : Env} {ds : List D} {μ : Sto} {Q : RV → Sto → Prop} (hl : ds.length ≤ 1000000) (h : CiL C g own t c e ρ ds μ fun os μ' => Q (.fr (os.filterMap id)) μ') : Cmp C g own t c e ds ρ μ Q := by
  unfold Cmp
  rw [← wp_q, wp_bind, wp_noex]
  refine (cil_wp h).mono (fun r μ1 ⟨os, h1, h2, h3⟩ => ?_) fun _ _ q => q
  subst h2
  have : (os.filterMap id).length ≤ os.length := List.length_filterMap_le _ _
  rw [if_pos ⟨by rw [sizeLine_eq]; omega, by rw [sizeLine_eq]; omega⟩]
  exact wp_pure.mpr h3
theorem cil_cons {C : Calls} {g : GT} {own : List Nat} {t : T} {c : Option J.E} {e : J.E} {ρ : Env} {d : D} {ds : List D} {μ : Sto} {k : List (Option D) → Sto → Prop} : CiL C g own t c e ρ (d :: ds) μ k ↔ Ci C g own t c e ρ d μ fun o μ1 => CiL C g own t c e ρ ds μ1 fun os μ2 => k (o :: os) μ2 := Iff.rfl
theorem fm_1 {a : D} : List.filterMap id [some a] = [a] := rfl
theorem fm_2 {a b : D} : List.filterMap id [some a, some b] = [a, b] := rfl
theorem fm_3 {a b c : D} : List.filterMap id [some a, some b, some c] = [a, b, c] := rfl
theorem cil_nil {C : Calls} {g : GT} {own : List Nat} {t : T} {c : Option J.E} {e : J.E} {ρ : Env} {μ : Sto} {k : List (Option D) → Sto → Prop} : CiL C g own t c e ρ [] μ k ↔ k [] μ := Iff.rfl
end J
/-! S16: fractions. -/
namespace J
open PySem L2
def qD (q : Rat) : D := .tup [.int q.num, .int (q.den : Int)]
/-- Euclid's turns, counted -/
def Eu (n : Nat) (x y : Int) : Prop := 0 ≤ x ∧ 0 ≤ y ∧ ((y ≤ x ∧ x * y < 2 ^ n) ∨ (x < y ∧ 1 ≤ n ∧ x * y < 2 ^ (n - 1)))
theorem Eu.step {n : Nat} {x y : Int} (h : Eu n x y) (hy : 0 < y) : ∃ m, m < n ∧ Eu m y (x % y) := by
  obtain ⟨x0, y0, h⟩ := h
  have r0 := Int.emod_nonneg x (show y ≠ 0 by omega)
  have r1 := Int.emod_lt_of_pos x hy
  rcases h with ⟨h1, h2⟩ | ⟨h1, h2, h3⟩
  · have e := Int.mul_ediv_add_emod x y
    have q1 : 1 ≤ x / y := (Int.le_ediv_iff_mul_le hy).mpr (by omega)
    have q2 : y ≤ y * (x / y) := by
      have := Int.mul_le_mul_of_nonneg_left q1 y0
      omega
    have r2 : 2 * (x % y) < x := by omega
    have r3 : y * (2 * (x % y)) < y * x := Int.mul_lt_mul_of_pos_left r2 hy
    have c1 : y * (2 * (x % y)) = 2 * (y * (x % y)) := by rw [← Int.mul_assoc, Int.mul_comm y 2, Int.mul_assoc]
    have c2 : y * x = x * y := Int.mul_comm _ _
    have p0 : 0 ≤ y * (x % y) := Int.mul_nonneg y0 r0
    cases n with
    | zero =>
      have e0 : (2 : Int) ^ 0 = 1 := rfl
      rw [e0] at h2
      omega
    | succ n =>
      have e1 : (2 : Int) ^ (n + 1) = 2 ^ n * 2 := Int.pow_succ _ _
      rw [e1] at h2
      exact ⟨n, by omega, y0, r0, .inl ⟨by omega, by omega⟩⟩
  · have e : x % y = x := Int.emod_eq_of_lt x0 h1
    rw [e]
    exact ⟨n - 1, by omega, y0, x0, .inl ⟨by omega, by rw [Int.mul_comm]; exact h3⟩⟩
theorem Eu.start {x y : Int} (x0 : 0 ≤ x) (y0 : 0 ≤ y) (x1 : x < 2 ^ 9000) (y1 : y < 2 ^ 9000) : Eu 18001 x y := by
  have p1 : x * y ≤ x * 2 ^ 9000 := Int.mul_le_mul_of_nonneg_left (by omega) x0
  have p2 : x * 2 ^ 9000 < 2 ^ 9000 * 2 ^ 9000 := Int.mul_lt_mul_of_pos_right x1 (Int.pow_pos (by decide))
  have e1 : (2 : Int) ^ 9000 * 2 ^ 9000 = 2 ^ 18000 := by rw [← Int.pow_add]
  have e2 : (2 : Int) ^ 18001 = 2 ^ 18000 * 2 := Int.pow_succ _ _
  have p3 : (0 : Int) < 2 ^ 18000 := Int.pow_pos (by decide)
  generalize (2 : Int) ^ 18000 = B at e1 e2 p3
  refine ⟨x0, y0, ?_⟩
  have e3 : (2 : Int) ^ (18001 - 1) = B := by
    have : (2 : Int) ^ (18001 - 1) * 2 = B * 2 := by rw [← e2, ← Int.pow_succ]
    omega
  by_cases h : y ≤ x
  · exact .inl ⟨h, by rw [e2]; omega⟩
  · exact .inr ⟨by omega, by decide, by rw [e3]; omega⟩
theorem gcd_step' {x y : Int} (h1 : 0 ≤ x) (h2 : 0 < y) : gcdI y (x % y) = gcdI x y := gcd_step h1 h2
/-- common: slots 0 and 1 -/
theorem common_whl {C : Calls} {g : GT} {μ : Sto} {x y : Int} {S : Flo → Sto → Prop} {n : Nat} (hn : n < 10 ^ 60) (h0 : Eu n x y) (h : S (.nx [.val (.int (gcdI x y)), .val (.int 0)]) μ) :
    Whl C g (.cmp .gt (.var 1) (.lit (.int 0))) [.par2 0 1 (.var 1) (.bin .mod (.var 0) (.var 1))] [.val (.int x), .val (.int y)] μ S := by
  refine whl_inv (fun n ρ μ' => μ' = μ ∧ ∃ x' y' : Int, ρ = [.val (.int x'), .val (.int y')] ∧ Eu n x' y' ∧ gcdI x' y' = gcdI x y) (n := n) hn ⟨rfl, x, y, rfl, h0, rfl⟩ ?_
  rintro n ρ μ' ⟨rfl, x', y', rfl, e, h3⟩
  simp -dsimp (disch := omega) only [ev, ofS_inj, String.reduceEq, Int.reduceNeg, decide_true, decide_false, Bool.not_true, Bool.not_false, Bool.not_eq_true, true_or, or_true, or_false, false_or, true_and, and_true, and_false, false_and, or_self, and_self]
  refine br_d (fun hp => ?_) fun hp => ?_
  · simp -dsimp (disch := omega) only [ev, ofS_inj, String.reduceEq, Int.reduceNeg, decide_true, decide_false, Bool.not_true, Bool.not_false, Bool.not_eq_true, true_or, or_true, or_false, false_or, true_and, and_true, and_false, false_and, or_self, and_self]
    rw [bn_mod hp]
    simp -dsimp (disch := omega) only [ev, ofS_inj, String.reduceEq, Int.reduceNeg, decide_true, decide_false, Bool.not_true, Bool.not_false, Bool.not_eq_true, true_or, or_true, or_false, false_or, true_and, and_true, and_false, false_and, or_self, and_self]
    obtain ⟨m, hm, e'⟩ := e.step hp
    exact ⟨m, hm, y', x' % y', rfl, e', by rw [gcd_step e.1 hp]; exact h3⟩
  · have z : y' = 0 := by have := e.2.1; omega
    subst z
    rw [gcd_zero e.1] at h3
    rw [h3]; exact h
/-- the law's own: slots 2 and 3 -/
theorem common_whl2 {C : Calls} {g : GT} {μ : Sto} {a b : Slot} {x y : Int} {S : Flo → Sto → Prop} {n : Nat} (hn : n < 10 ^ 60) (h0 : Eu n x y) (h : S (.nx [a, b, .val (.int (gcdI x y)), .val (.int 0)]) μ) :
    Whl C g (.cmp .gt (.var 3) (.lit (.int 0))) [.par2 2 3 (.var 3) (.bin .mod (.var 2) (.var 3))] [a, b, .val (.int x), .val (.int y)] μ S := by
  refine whl_inv (fun n ρ μ' => μ' = μ ∧ ∃ x' y' : Int, ρ = [a, b, .val (.int x'), .val (.int y')] ∧ Eu n x' y' ∧ gcdI x' y' = gcdI x y) (n := n) hn ⟨rfl, x, y, rfl, h0, rfl⟩ ?_
  rintro n ρ μ' ⟨rfl, x', y', rfl, e, h3⟩
  simp -dsimp (disch := omega) only [ev, ofS_inj, String.reduceEq, Int.reduceNeg, decide_true, decide_false, Bool.not_true, Bool.not_false, Bool.not_eq_true, true_or, or_true, or_false, false_or, true_and, and_true, and_false, false_and, or_self, and_self]
  refine br_d (fun hp => ?_) fun hp => ?_
  · simp -dsimp (disch := omega) only [ev, ofS_inj, String.reduceEq, Int.reduceNeg, decide_true, decide_false, Bool.not_true, Bool.not_false, Bool.not_eq_true, true_or, or_true, or_false, false_or, true_and, and_true, and_false, false_and, or_self, and_self]
    rw [bn_mod hp]
    simp -dsimp (disch := omega) only [ev, ofS_inj, String.reduceEq, Int.reduceNeg, decide_true, decide_false, Bool.not_true, Bool.not_false, Bool.not_eq_true, true_or, or_true, or_false, false_or, true_and, and_true, and_false, false_and, or_self, and_self]
    obtain ⟨m, hm, e'⟩ := e.step hp
    exact ⟨m, hm, y', x' % y', rfl, e', by rw [gcd_step e.1 hp]; exact h3⟩
  · have z : y' = 0 := by have := e.2.1; omega
    subst z
    rw [gcd_zero e.1] at h3
    rw [h3]; exact h
theorem q_mk {t b : Int} (hb : 0 < b) : D.tup [.int (t / gcdI t b), .int (b / gcdI t b)] = qD (Rat.divInt t b) := by
  obtain ⟨n, rfl⟩ := Int.eq_ofNat_of_zero_le (show 0 ≤ b by omega)
  have hn : n ≠ 0 := by omega
  have e1 : Rat.divInt t (n : Int) = mkRat t n := Rat.divInt_ofNat t n
  have e2 : gcdI t (n : Int) = (n.gcd t.natAbs : Nat) := by
    unfold gcdI
    rw [Nat.gcd_comm]; rfl
  unfold qD
  rw [e1, Rat.num_mkRat, Rat.den_mkRat, if_neg hn, if_neg hn, e2]
  rfl
/-- what is below 2^k in size -/
def Sm (k : Nat) (t : Int) : Prop := t.natAbs < 2 ^ k
theorem Sm.mono {k m : Nat} {t : Int} (h : Sm k t) (hk : k ≤ m) : Sm m t := Nat.lt_of_lt_of_le h (Nat.pow_le_pow_right (by decide) hk)
theorem Sm.mul {k m : Nat} {t u : Int} (h : Sm k t) (g : Sm m u) : Sm (k + m) (t * u) := by
  unfold Sm at *
  rw [Int.natAbs_mul, Nat.pow_add]
  exact Nat.mul_lt_mul'' h g
theorem Sm.add {k : Nat} {t u : Int} (h : Sm k t) (g : Sm k u) : Sm (k + 1) (t + u) := by
  unfold Sm at *
  rw [Nat.pow_succ]
  omega
theorem Sm.sub {k : Nat} {t u : Int} (h : Sm k t) (g : Sm k u) : Sm (k + 1) (t - u) := by
  unfold Sm at *
  rw [Nat.pow_succ]
  omega
theorem Sm.log {k : Nat} {t : Int} (h : Sm k t) (hk : 0 < k) : t.natAbs.log2 < k := log_lt h hk
theorem Sm.log_mul {k m : Nat} {t u : Int} (h : Sm k t) (g : Sm m u) (h1 : 0 < k) (h2 : 0 < m) (hk : k + m ≤ 1000000) : t.natAbs.log2 + u.natAbs.log2 < 1000000 := by
  have := h.log h1
  have := g.log h2
  omega
theorem pow_9000 {k : Nat} (hk : k ≤ 9000) {t : Int} (t0 : 0 ≤ t) (h : Sm k t) : t < 2 ^ 9000 := by
  have h1 : t.natAbs < 2 ^ 9000 := Nat.lt_of_lt_of_le h (Nat.pow_le_pow_right (by decide) hk)
  have e : ((2 ^ 9000 : Nat) : Int) = 2 ^ 9000 := by rw [Int.natCast_pow]; rfl
  rw [← e]
  generalize 2 ^ 9000 = B at h1
  omega
theorem fin_low {k : Nat} (hk : k ≤ 9000) (h0 : 0 < k) {t b : Int} (hb : 0 < b) (h2 : Sm k b) : 0 < gcdI t b ∧ (gcdI t b).natAbs.log2 < 9000 := by
  have g1 := gcdI_pos (t := t) (b := b) (by omega)
  have g2 := gcdI_le (t := t) (b := b) (by omega)
  refine ⟨g1, ?_⟩
  have : Sm k (gcdI t b) := by unfold Sm at h2 ⊢; omega
  have := this.log h0
  omega
section
variable {K k : Nat} {μ : Sto} {Q : RV → Sto → Prop}
theorem common_ok {x y : Int} (x0 : 0 ≤ x) (y0 : 0 ≤ y) (hx : Sm 9000 x) (hy : Sm 9000 y) (hK : 0 < K) : callP U G K 61 [.int x, .int y] = M.pure (.v (.int (gcdI x y))) := by
  refine pure_of fun μ Q q => ?_
  obtain ⟨K, rfl⟩ := kS hK
  rw [c_common]; unfold b_common
  simp -dsimp (disch := omega) only [ev, ofS_inj, String.reduceEq, Int.reduceNeg, decide_true, decide_false, Bool.not_true, Bool.not_false, Bool.not_eq_true, true_or, or_true, or_false, false_or, true_and, and_true, and_false, false_and, or_self, and_self]
  refine common_whl (n := 18001) (by decide) (Eu.start x0 y0 (pow_9000 (Nat.le_refl _) x0 hx) (pow_9000 (Nat.le_refl _) y0 hy)) ?_
  simp -dsimp (disch := omega) only [ev, ofS_inj, String.reduceEq, Int.reduceNeg, decide_true, decide_false, Bool.not_true, Bool.not_false, Bool.not_eq_true, true_or, or_true, or_false, false_or, true_and, and_true, and_false, false_and, or_self, and_self]
  exact q
theorem fraction_ok {t b : Int} (hb : b ≠ 0) (ht : Sm 9000 t) (hs : Sm 9000 b) (hK : 1 < K) : callP U G K 62 [.int t, .int b] = M.pure (.v (qD (Rat.divInt t b))) := by
  refine pure_of fun μ Q q => ?_
  obtain ⟨K, rfl⟩ := kS hK
  rw [c_fraction]; unfold b_fraction
  simp -dsimp (disch := omega) only [ev, ofS_inj, String.reduceEq, Int.reduceNeg, decide_true, decide_false, Bool.not_true, Bool.not_false, Bool.not_eq_true, true_or, or_true, or_false, false_or, true_and, and_true, and_false, false_and, or_self, and_self]
  have key : ∀ t b : Int, 0 < b → Sm 9000 t → Sm 9000 b → Q (.v (qD (Rat.divInt t b))) μ → Rs (callP U G K) G [.asg (.nm 2) (.call 61 [(.blt .abs [(.var 0)]), (.var 1)]), .ret (.tup [(.bin .fdiv (.var 0) (.var 2)), (.bin .fdiv (.var 1) (.var 2))])] [.val (.int t), .val (.int b), .none] μ (FinQ Q nE ()) := fun t b hb ht hs q => by
    have ea : (if t < 0 then -t else t) = (t.natAbs : Int) := by split <;> omega
    have g0 : gcdI (t.natAbs : Int) b = gcdI t b := by unfold gcdI; rw [Int.natAbs_natCast]
    have hs' : Sm 9000 (t.natAbs : Int) := by unfold Sm at ht ⊢; rw [Int.natAbs_natCast]; exact ht
    obtain ⟨g1, g2⟩ := fin_low (t := t) (Nat.le_refl 9000) (by decide) hb hs
    simp -dsimp (disch := omega) only [ea, common_ok (show (0 : Int) ≤ (t.natAbs : Int) by omega) (show 0 ≤ b by omega) hs' hs (show 0 < K by omega), wp_pure, g0, ev, ofS_inj, String.reduceEq, Int.reduceNeg, decide_true, decide_false, Bool.not_true, Bool.not_false, Bool.not_eq_true, true_or, or_true, or_false, false_or, true_and, and_true, and_false, false_and, or_self, and_self]
    rw [bn_fdiv g1 g2]
    simp -dsimp (disch := omega) only [ev, ofS_inj, String.reduceEq, Int.reduceNeg, decide_true, decide_false, Bool.not_true, Bool.not_false, Bool.not_eq_true, true_or, or_true, or_false, false_or, true_and, and_true, and_false, false_and, or_self, and_self]
    rw [bn_fdiv g1 g2]
    simp -dsimp (disch := omega) only [ev, ofS_inj, String.reduceEq, Int.reduceNeg, decide_true, decide_false, Bool.not_true, Bool.not_false, Bool.not_eq_true, true_or, or_true, or_false, false_or, true_and, and_true, and_false, false_and, or_self, and_self]
    rw [q_mk hb]
    exact q
  refine br_d (fun c => ?_) fun c => ?_
  · simp -dsimp (disch := omega) only [ev, ofS_inj, String.reduceEq, Int.reduceNeg, decide_true, decide_false, Bool.not_true, Bool.not_false, Bool.not_eq_true, true_or, or_true, or_false, false_or, true_and, and_true, and_false, false_and, or_self, and_self]
    have := key (0 - t) (0 - b) (by omega) (by unfold Sm at ht ⊢; omega) (by unfold Sm at hs ⊢; omega) (by
      rw [show (0 - t) = -t by omega, show (0 - b) = -b by omega, Rat.neg_divInt_neg]; exact q)
    simp -dsimp only [ev] at this
    exact this
  · have := key t b (by omega) ht hs q
    simp -dsimp only [ev] at this ⊢
    exact this
theorem lowest_ok {t b : Int} (hb : b ≠ 0) (ht : Sm 9000 t) (hs : Sm 9000 b) (hK : 0 < K) : callP U G K 66 [.int t, .int b] = M.pure (.v (qD (Rat.divInt t b))) := by
  refine pure_of fun μ Q q => ?_
  obtain ⟨K, rfl⟩ := kS hK
  rw [c_l_lowest]; unfold b_l_lowest
  simp -dsimp (disch := omega) only [ev, ofS_inj, String.reduceEq, Int.reduceNeg, decide_true, decide_false, Bool.not_true, Bool.not_false, Bool.not_eq_true, true_or, or_true, or_false, false_or, true_and, and_true, and_false, false_and, or_self, and_self]
  have key : ∀ t b : Int, 0 < b → Sm 9000 t → Sm 9000 b → Q (.v (qD (Rat.divInt t b))) μ → Rs (callP U G K) G [.par2 2 3 (.blt .max2 [(.var 0), (.bin .sub (.lit (.int 0)) (.var 0))]) (.var 1), .whl (.cmp .gt (.var 3) (.lit (.int 0))) [.par2 2 3 (.var 3) (.bin .mod (.var 2) (.var 3))], .ret (.tup [(.bin .fdiv (.var 0) (.var 2)), (.bin .fdiv (.var 1) (.var 2))])] [.val (.int t), .val (.int b), .none, .none] μ (FinQ Q nE ()) := fun t b hb ht hs q => by
    have ea : (if 0 - t > t then 0 - t else t) = (t.natAbs : Int) := by split <;> omega
    have g0 : gcdI (t.natAbs : Int) b = gcdI t b := by unfold gcdI; rw [Int.natAbs_natCast]
    have hs' : Sm 9000 (t.natAbs : Int) := by unfold Sm at ht ⊢; rw [Int.natAbs_natCast]; exact ht
    obtain ⟨g1, g2⟩ := fin_low (t := t) (Nat.le_refl 9000) (by decide) hb hs
    simp -dsimp (disch := omega) only [ea, ev, ofS_inj, String.reduceEq, Int.reduceNeg, decide_true, decide_false, Bool.not_true, Bool.not_false, Bool.not_eq_true, true_or, or_true, or_false, false_or, true_and, and_true, and_false, false_and, or_self, and_self]
    refine common_whl2 (n := 18001) (by decide) (Eu.start (by omega) (by omega) (pow_9000 (Nat.le_refl _) (by omega) hs') (pow_9000 (Nat.le_refl _) (by omega) hs)) ?_
    rw [g0]
    simp -dsimp (disch := omega) only [ev, ofS_inj, String.reduceEq, Int.reduceNeg, decide_true, decide_false, Bool.not_true, Bool.not_false, Bool.not_eq_true, true_or, or_true, or_false, false_or, true_and, and_true, and_false, false_and, or_self, and_self]
    rw [bn_fdiv g1 g2]
    simp -dsimp (disch := omega) only [ev, ofS_inj, String.reduceEq, Int.reduceNeg, decide_true, decide_false, Bool.not_true, Bool.not_false, Bool.not_eq_true, true_or, or_true, or_false, false_or, true_and, and_true, and_false, false_and, or_self, and_self]
    rw [bn_fdiv g1 g2]
    simp -dsimp (disch := omega) only [ev, ofS_inj, String.reduceEq, Int.reduceNeg, decide_true, decide_false, Bool.not_true, Bool.not_false, Bool.not_eq_true, true_or, or_true, or_false, false_or, true_and, and_true, and_false, false_and, or_self, and_self]
    rw [q_mk hb]
    exact q
  refine br_d (fun c => ?_) fun c => ?_
  · simp -dsimp (disch := omega) only [ev, ofS_inj, String.reduceEq, Int.reduceNeg, decide_true, decide_false, Bool.not_true, Bool.not_false, Bool.not_eq_true, true_or, or_true, or_false, false_or, true_and, and_true, and_false, false_and, or_self, and_self]
    have := key (0 - t) (0 - b) (by omega) (by unfold Sm at ht ⊢; omega) (by unfold Sm at hs ⊢; omega) (by
      rw [show (0 - t) = -t by omega, show (0 - b) = -b by omega, Rat.neg_divInt_neg]; exact q)
    simp -dsimp only [ev] at this
    exact this
  · have := key t b (by omega) ht hs q
    simp -dsimp only [ev] at this ⊢
    exact this
end
/-- a fraction of small parts -/
structure Qz (k : Nat) (q : Rat) : Prop where
  n : Sm k q.num
  d : Sm k (q.den : Int)
theorem Qz.mono {k m : Nat} {q : Rat} (h : Qz k q) (hk : k ≤ m) : Qz m q := ⟨h.n.mono hk, h.d.mono hk⟩
theorem div_z {k : Nat} {t b : Int} (hb : 0 < b) (ht : Sm k t) (hs : Sm k b) : Qz k (Rat.divInt t b) := by
  have e := q_mk (t := t) hb
  unfold qD at e
  simp only [D.tup.injEq, List.cons.injEq, D.int.injEq, and_true] at e
  have g := gcdI_pos (t := t) (b := b) (by omega)
  constructor
  · rw [← e.1]; exact Nat.lt_of_le_of_lt (div_natAbs g) ht
  · rw [← e.2]; exact Nat.lt_of_le_of_lt (div_natAbs g) hs
theorem div_z' {k : Nat} {t b : Int} (hb : b ≠ 0) (ht : Sm k t) (hs : Sm k b) : Qz k (Rat.divInt t b) := by
  rcases Int.lt_or_gt_of_ne hb with h | h
  · rw [← Rat.neg_divInt_neg]
    exact div_z (by omega) (by unfold Sm at ht ⊢; omega) (by unfold Sm at hs ⊢; omega)
  · exact div_z h ht hs
theorem den_pos (q : Rat) : (0 : Int) < q.den := by have := q.den_nz; omega
theorem q_add (p q : Rat) : p + q = Rat.divInt (p.num * q.den + q.num * p.den) ((p.den : Int) * q.den) := by
  rw [Rat.add_def', ← Int.natCast_mul, Rat.divInt_ofNat]
theorem q_sub (p q : Rat) : p - q = Rat.divInt (p.num * q.den - q.num * p.den) ((p.den : Int) * q.den) := by
  rw [Rat.sub_def', ← Int.natCast_mul, Rat.divInt_ofNat]
theorem q_mul (p q : Rat) : p * q = Rat.divInt (p.num * q.num) ((p.den : Int) * q.den) := by
  rw [Rat.mul_def', ← Int.natCast_mul, Rat.divInt_ofNat]
section
variable {K k : Nat} {p q : Rat}
theorem pq_sm (hp : Qz k p) (hq : Qz k q) : Sm (k + k + 1) (p.num * q.den + q.num * p.den) ∧ Sm (k + k + 1) (p.num * q.den - q.num * p.den) ∧ Sm (k + k + 1) (p.num * q.num) ∧ Sm (k + k + 1) ((p.den : Int) * q.den) :=
  ⟨(hp.n.mul hq.d).add (hq.n.mul hp.d), (hp.n.mul hq.d).sub (hq.n.mul hp.d), (hp.n.mul hq.n).mono (by omega), (hp.d.mul hq.d).mono (by omega)⟩
theorem Qz.add (hp : Qz k p) (hq : Qz k q) : Qz (k + k + 1) (p + q) := by
  obtain ⟨h1, h2, h3, h4⟩ := pq_sm hp hq
  rw [q_add]; exact div_z (Int.mul_pos (den_pos p) (den_pos q)) h1 h4
theorem Qz.sub (hp : Qz k p) (hq : Qz k q) : Qz (k + k + 1) (p - q) := by
  obtain ⟨h1, h2, h3, h4⟩ := pq_sm hp hq
  rw [q_sub]; exact div_z (Int.mul_pos (den_pos p) (den_pos q)) h2 h4
theorem Qz.mul (hp : Qz k p) (hq : Qz k q) : Qz (k + k + 1) (p * q) := by
  obtain ⟨h1, h2, h3, h4⟩ := pq_sm hp hq
  rw [q_mul]; exact div_z (Int.mul_pos (den_pos p) (den_pos q)) h3 h4
theorem plus_ok (hp : Qz k p) (hq : Qz k q) (h0 : 0 < k) (hk : k ≤ 4000) (hK : 2 < K) : callP U G K 63 [qD p, qD q] = M.pure (.v (qD (p + q))) := by
  refine pure_of fun μ Q r => ?_
  obtain ⟨K, rfl⟩ := kS hK
  obtain ⟨h1, h2, h3, h4⟩ := pq_sm hp hq
  rw [c_plus]; unfold b_plus qD
  simp -dsimp (disch := omega) only [ev, ofS_inj, String.reduceEq, Int.reduceNeg, decide_true, decide_false, Bool.not_true, Bool.not_false, Bool.not_eq_true, true_or, or_true, or_false, false_or, true_and, and_true, and_false, false_and, or_self, and_self]
  rw [bn_mul (hp.n.log_mul hq.d h0 h0 (by omega))]
  simp -dsimp (disch := omega) only [ev, ofS_inj, String.reduceEq, Int.reduceNeg, decide_true, decide_false, Bool.not_true, Bool.not_false, Bool.not_eq_true, true_or, or_true, or_false, false_or, true_and, and_true, and_false, false_and, or_self, and_self]
  rw [bn_mul (hq.n.log_mul hp.d h0 h0 (by omega))]
  simp -dsimp (disch := omega) only [ev, ofS_inj, String.reduceEq, Int.reduceNeg, decide_true, decide_false, Bool.not_true, Bool.not_false, Bool.not_eq_true, true_or, or_true, or_false, false_or, true_and, and_true, and_false, false_and, or_self, and_self]
  rw [bn_mul (hp.d.log_mul hq.d h0 h0 (by omega))]
  simp -dsimp (disch := omega) only [ev, ofS_inj, String.reduceEq, Int.reduceNeg, decide_true, decide_false, Bool.not_true, Bool.not_false, Bool.not_eq_true, true_or, or_true, or_false, false_or, true_and, and_true, and_false, false_and, or_self, and_self]
  rw [pure_at (fraction_ok (by have := Int.mul_pos (den_pos p) (den_pos q); omega) (h1.mono (by omega)) (h4.mono (by omega)) (by omega)), ← q_add]
  simp -dsimp (disch := omega) only [ev, ofS_inj, String.reduceEq, Int.reduceNeg, decide_true, decide_false, Bool.not_true, Bool.not_false, Bool.not_eq_true, true_or, or_true, or_false, false_or, true_and, and_true, and_false, false_and, or_self, and_self]
  exact r
theorem minus_ok (hp : Qz k p) (hq : Qz k q) (h0 : 0 < k) (hk : k ≤ 4000) (hK : 2 < K) : callP U G K 64 [qD p, qD q] = M.pure (.v (qD (p - q))) := by
  refine pure_of fun μ Q r => ?_
  obtain ⟨K, rfl⟩ := kS hK
  obtain ⟨h1, h2, h3, h4⟩ := pq_sm hp hq
  rw [c_minus]; unfold b_minus qD
  simp -dsimp (disch := omega) only [ev, ofS_inj, String.reduceEq, Int.reduceNeg, decide_true, decide_false, Bool.not_true, Bool.not_false, Bool.not_eq_true, true_or, or_true, or_false, false_or, true_and, and_true, and_false, false_and, or_self, and_self]
  rw [bn_mul (hp.n.log_mul hq.d h0 h0 (by omega))]
  simp -dsimp (disch := omega) only [ev, ofS_inj, String.reduceEq, Int.reduceNeg, decide_true, decide_false, Bool.not_true, Bool.not_false, Bool.not_eq_true, true_or, or_true, or_false, false_or, true_and, and_true, and_false, false_and, or_self, and_self]
  rw [bn_mul (hq.n.log_mul hp.d h0 h0 (by omega))]
  simp -dsimp (disch := omega) only [ev, ofS_inj, String.reduceEq, Int.reduceNeg, decide_true, decide_false, Bool.not_true, Bool.not_false, Bool.not_eq_true, true_or, or_true, or_false, false_or, true_and, and_true, and_false, false_and, or_self, and_self]
  rw [bn_mul (hp.d.log_mul hq.d h0 h0 (by omega))]
  simp -dsimp (disch := omega) only [ev, ofS_inj, String.reduceEq, Int.reduceNeg, decide_true, decide_false, Bool.not_true, Bool.not_false, Bool.not_eq_true, true_or, or_true, or_false, false_or, true_and, and_true, and_false, false_and, or_self, and_self]
  rw [pure_at (fraction_ok (by have := Int.mul_pos (den_pos p) (den_pos q); omega) (h2.mono (by omega)) (h4.mono (by omega)) (by omega)), ← q_sub]
  simp -dsimp (disch := omega) only [ev, ofS_inj, String.reduceEq, Int.reduceNeg, decide_true, decide_false, Bool.not_true, Bool.not_false, Bool.not_eq_true, true_or, or_true, or_false, false_or, true_and, and_true, and_false, false_and, or_self, and_self]
  exact r
theorem times_ok (hp : Qz k p) (hq : Qz k q) (h0 : 0 < k) (hk : k ≤ 4000) (hK : 2 < K) : callP U G K 65 [qD p, qD q] = M.pure (.v (qD (p * q))) := by
  refine pure_of fun μ Q r => ?_
  obtain ⟨K, rfl⟩ := kS hK
  obtain ⟨h1, h2, h3, h4⟩ := pq_sm hp hq
  rw [c_times]; unfold b_times qD
  simp -dsimp (disch := omega) only [ev, ofS_inj, String.reduceEq, Int.reduceNeg, decide_true, decide_false, Bool.not_true, Bool.not_false, Bool.not_eq_true, true_or, or_true, or_false, false_or, true_and, and_true, and_false, false_and, or_self, and_self]
  rw [bn_mul (hp.n.log_mul hq.n h0 h0 (by omega))]
  simp -dsimp (disch := omega) only [ev, ofS_inj, String.reduceEq, Int.reduceNeg, decide_true, decide_false, Bool.not_true, Bool.not_false, Bool.not_eq_true, true_or, or_true, or_false, false_or, true_and, and_true, and_false, false_and, or_self, and_self]
  rw [bn_mul (hp.d.log_mul hq.d h0 h0 (by omega))]
  simp -dsimp (disch := omega) only [ev, ofS_inj, String.reduceEq, Int.reduceNeg, decide_true, decide_false, Bool.not_true, Bool.not_false, Bool.not_eq_true, true_or, or_true, or_false, false_or, true_and, and_true, and_false, false_and, or_self, and_self]
  rw [pure_at (fraction_ok (by have := Int.mul_pos (den_pos p) (den_pos q); omega) (h3.mono (by omega)) (h4.mono (by omega)) (by omega)), ← q_mul]
  simp -dsimp (disch := omega) only [ev, ofS_inj, String.reduceEq, Int.reduceNeg, decide_true, decide_false, Bool.not_true, Bool.not_false, Bool.not_eq_true, true_or, or_true, or_false, false_or, true_and, and_true, and_false, false_and, or_self, and_self]
  exact r
end
end J
/-! S17: texts of values. -/
namespace J
open PySem L2
mutual
def szD : D → Nat
  | .int _ => 502
  | .str x => 10 * x.length + 2
  | .tup ds => szDs ds + 3
  | .lst ds => szDs ds + 3
  | _ => 0
def szDs : List D → Nat
  | [] => 0
  | d :: r => szD d + 2 + szDs r
end
/-- plain data with a text -/
inductive Ps : Nat → D → Prop
  | int {k : Nat} (i : Int) (h : i.natAbs < 10 ^ 500) : Ps k (.int i)
  | str {k : Nat} {x : Str} (h : PyData.strOk x = true) : Ps k (.str x)
  | tup {k : Nat} {ds : List D} (h : ∀ d ∈ ds, Ps k d) : Ps (k + 1) (.tup ds)
  | lst {k : Nat} {ds : List D} (h : ∀ d ∈ ds, Ps k d) : Ps (k + 1) (.lst ds)
theorem Ps.mono {k k' : Nat} {d : D} (h : Ps k d) (hk : k ≤ k') : Ps k' d := by
  induction h generalizing k' with
  | int i h => exact .int i h
  | str h => exact .str h
  | tup h ih =>
    obtain ⟨q, rfl⟩ : ∃ q, k' = q + 1 := ⟨k' - 1, by omega⟩
    exact .tup fun d hd => ih d hd (by omega)
  | lst h ih =>
    obtain ⟨q, rfl⟩ : ∃ q, k' = q + 1 := ⟨k' - 1, by omega⟩
    exact .lst fun d hd => ih d hd (by omega)
theorem Ps.tup' {k : Nat} {ds : List D} (h0 : 0 < k) (h : ∀ d ∈ ds, Ps (k - 1) d) : Ps k (.tup ds) := by
  obtain ⟨q, rfl⟩ : ∃ q, k = q + 1 := ⟨k - 1, by omega⟩
  exact .tup h
theorem tupleText_len (ts : List Str) : (tupleText ts).length ≤ piled ts + 3 := by
  have e2 : ∀ b : Bool, ((if b = true then ",)" else ")" : String) : Str).length ≤ 2 := fun b => by cases b <;> decide +kernel
  have e1 : (("(" : String) : Str).length = 1 := rfl
  unfold tupleText
  rw [strLen_append, strLen_append, e1]
  have := e2 (ts.length == 1)
  cases ts with
  | nil =>
    have : (Str.join ", " []).length = 0 := rfl
    rw [this]; omega
  | cons t r =>
    have h := join_length_add (t :: r) (by simp)
    omega
theorem textFrom_le : ∀ (ts : List Str) (k : Nat) (acc : Str), (textFrom k acc ts).length ≤ acc.length + piled ts
  | [], k, acc => by show acc.length ≤ _; rw [piled_nil]; omega
  | t :: r, k, acc => by
    have ih := textFrom_le r (k + 1) (acc ++ (if k > 0 then ", " else "" : String) ++ t)
    have e : (acc ++ (if k > 0 then ", " else "" : String) ++ t).length = acc.length + (if k > 0 then 2 else 0) + t.length := by
      rw [strLen_append, strLen_append]
      split <;> rfl
    rw [piled_cons]
    show (textFrom (k + 1) (acc ++ (if k > 0 then ", " else "" : String) ++ t) r).length ≤ _
    rw [e] at ih
    have : (if k > 0 then 2 else 0) ≤ 2 := by split <;> omega
    omega
theorem listText_len (ts : List Str) : (listText ts).length ≤ piled ts + 3 := by
  unfold listText
  rw [strLen_append]
  have h := textFrom_le ts 0 "["
  have e1 : (("[" : String) : Str).length = 1 := rfl
  have e2 : (("]" : String) : Str).length = 1 := rfl
  rw [e1] at h
  rw [e2]; omega
theorem ps_shown {k : Nat} {d : D} (h : Ps k d) : d.py.canLay0 = true ∧ d.py.depth ≤ k ∧ d.py.showable = true ∧ d.py.shown.length ≤ szD d := by
  have key : ∀ {k : Nat} (ds : List D), (∀ d ∈ ds, d.py.canLay0 = true ∧ d.py.depth ≤ k ∧ d.py.showable = true ∧ d.py.shown.length ≤ szD d) → PyData.canLayAll0 (pys ds) = true ∧ PyData.depthAll (pys ds) ≤ k ∧ PyData.showableAll (pys ds) = true ∧ piled (PyData.shownAll (pys ds)) ≤ szDs ds := by
    intro k ds
    induction ds with
    | nil => intro _; exact ⟨rfl, Nat.zero_le _, rfl, Nat.le_refl _⟩
    | cons a r ih =>
      intro hh
      obtain ⟨h1, h2, h3, h4⟩ := hh a List.mem_cons_self
      obtain ⟨g1, g2, g3, g4⟩ := ih fun d hd => hh d (List.mem_cons_of_mem _ hd)
      refine ⟨by simp only [pys, PyData.canLayAll0, h1, g1]; rfl, by simp only [pys, PyData.depthAll]; omega, by simp only [pys, PyData.showableAll, h3, g3]; rfl, ?_⟩
      simp only [pys, PyData.shownAll, szDs]
      rw [piled_cons]; omega
  induction h with
  | @int k i h =>
    refine ⟨rfl, Nat.zero_le _, ?_, ?_⟩
    · simp only [D.py, PyData.showable, decide_eq_true_eq]
      refine log_lt (Nat.lt_of_lt_of_le h ?_) (by decide)
      exact by decide +kernel
    · simp only [D.py, PyData.shown, szD]
      have e := int_text_length_le10 (k := 500) (by decide) h
      rw [ofString_length]; omega
  | @str k x h =>
    refine ⟨by simp only [D.py, PyData.canLay0]; exact h, Nat.zero_le _, rfl, ?_⟩
    simp only [D.py, PyData.shown, szD]
    refine StrLaws.reprText_len x fun c hc => ?_
    unfold PyData.strOk at h
    rw [← Array.all_toList, List.all_eq_true] at h
    have := h c hc
    simp only [decide_eq_true_eq] at this
    exact Nat.lt_of_lt_of_le this (by decide)
  | @tup k ds h ih =>
    obtain ⟨h1, h2, h3, h4⟩ := key ds ih
    simp only [D.py, PyData.canLay0, PyData.depth, PyData.showable, PyData.shown, szD]
    have := tupleText_len (PyData.shownAll (pys ds))
    exact ⟨h1, by omega, h3, by omega⟩
  | @lst k ds h ih =>
    obtain ⟨h1, h2, h3, h4⟩ := key ds ih
    simp only [D.py, PyData.canLay0, PyData.depth, PyData.showable, PyData.shown, szD]
    have := listText_len (PyData.shownAll (pys ds))
    exact ⟨h1, by omega, h3, by omega⟩
theorem rp {k : Nat} {d : D} (h : Ps k d) (hk : k ≤ 64) (hz : szD d ≤ 16000000) : ∃ z, reprD d = some z := by
  obtain ⟨h1, h2, h3, h4⟩ := ps_shown h
  have sl : szD d ≤ sizeLine := by rw [sizeLine_eq]; omega
  have hs : shp d = true := by
    unfold shp SeqAt.shaped
    rw [h1, decide_eq_true (by omega)]; rfl
  cases h with
  | int i h =>
    simp only [D.py, PyData.showable, decide_eq_true_eq] at h3
    exact ⟨_, by simp only [reprD, h3, if_true]; rfl⟩
  | str h =>
    simp only [D.py, PyData.shown] at h4
    exact ⟨_, by simp only [reprD]; rw [if_pos (Nat.le_trans h4 sl)]⟩
  | tup h => exact ⟨_, by simp only [reprD]; rw [if_pos ⟨hs, h3, Nat.le_trans h4 sl⟩]⟩
  | lst h => exact ⟨_, by simp only [reprD]; rw [if_pos ⟨hs, h3, Nat.le_trans h4 sl⟩]⟩
theorem cm_eqSS {z : Str} {kb : Bool → Prop} : Cm .eq (.str z) (.str z) kb ↔ kb true := by rw [cm_eqS]; simp
theorem cm_neSS {z : Str} {kb : Bool → Prop} : Cm .ne (.str z) (.str z) kb ↔ kb false := by rw [cm_neS]; simp
end J
/-! S18: houses dealt. -/
namespace J
open PySem L2
/-- how many passes, how many rounds -/
def B.pc : B → Nat
  | .thn a b => a.pc * b.pc
  | .eith a b => a.pc + b.pc
  | .take _ _ a b => a.pc + b.pc
  | _ => 1
def B.rc : B → Nat
  | .oft a => a.pc + a.rc
  | .thn a b => a.rc + b.rc
  | .eith a b => a.rc + b.rc
  | .take _ _ a b => a.rc + b.rc
  | _ => 0
theorem B.pc_le (b : B) : b.pc ≤ 2 ^ b.pt := by
  have e : ∀ p q : Nat, 2 ^ p + 2 ^ q ≤ 2 ^ (1 + p + q) := fun p q => by
    have h1 := Nat.pow_le_pow_right (n := 2) (by decide) (show p ≤ p + q by omega)
    have h2 := Nat.pow_le_pow_right (n := 2) (by decide) (show q ≤ p + q by omega)
    rw [show 1 + p + q = (p + q) + 1 by omega, Nat.pow_succ]; omega
  induction b <;> simp only [B.pc, B.pt]
  case thn a b i1 i2 =>
    have h := Nat.mul_le_mul i1 i2
    rw [← Nat.pow_add] at h
    exact Nat.le_trans h (Nat.pow_le_pow_right (by decide) (by omega))
  case eith a b i1 i2 => have := e a.pt b.pt; omega
  case take j n a b i1 i2 => have := e a.pt b.pt; omega
  all_goals exact Nat.pow_pos (by decide)
theorem B.pc_sm {b : B} (h : b.pt ≤ 10000) : Sm 10001 (b.pc : Int) := by
  have h1 := b.pc_le
  have h2 := Nat.pow_le_pow_right (n := 2) (by decide) h
  have h3 : 2 ^ 10000 < 2 ^ 10001 := Nat.pow_lt_pow_right (by decide) (by decide)
  unfold Sm
  rw [Int.natAbs_natCast]
  generalize 2 ^ 10000 = X at h2 h3
  generalize 2 ^ 10001 = Y at h3 ⊢
  omega
theorem rc_le (b : B) : b.rc ≤ b.pt * 2 ^ b.pt := by
  have e : ∀ p q : Nat, p * 2 ^ p + q * 2 ^ q ≤ (1 + p + q) * 2 ^ (1 + p + q) := fun p q => by
    have h1 := Nat.pow_le_pow_right (n := 2) (by decide) (show p ≤ 1 + p + q by omega)
    have h2 := Nat.pow_le_pow_right (n := 2) (by decide) (show q ≤ 1 + p + q by omega)
    have h3 := Nat.mul_le_mul_left p h1
    have h4 := Nat.mul_le_mul_left q h2
    rw [Nat.add_mul, Nat.add_mul]; omega
  induction b <;> simp only [B.rc, B.pt]
  case oft a i1 =>
    have h0 := a.pc_le
    have h1 := Nat.pow_le_pow_right (n := 2) (by decide) (show a.pt ≤ 1 + a.pt by omega)
    have h2 := Nat.mul_le_mul_left a.pt h1
    rw [Nat.add_mul]; omega
  case thn a b i1 i2 => have := e a.pt b.pt; omega
  case eith a b i1 i2 => have := e a.pt b.pt; omega
  case take j n a b i1 i2 => have := e a.pt b.pt; omega
  all_goals exact Nat.zero_le _
theorem pass_ok (b : B) : ∀ K, b.dp < K → b.pt ≤ 10000 → callP U G K 47 [b.d] = M.pure (.v (.int b.pc)) := by
  induction b <;> (intro K hK hp; refine pure_of fun μ Q q => ?_; obtain ⟨K, rfl⟩ := kS hK; try simp only [B.dp] at hK; try simp only [B.pt] at hp; rw [c_l_pass_count]; unfold b_l_pass_count)
  case thn a b i1 i2 =>
    simp -dsimp (disch := omega) only [B.d, i1 K (by omega) (by omega), i2 K (by omega) (by omega), wp_pure, ev, ofS_inj, String.reduceEq, Int.reduceNeg, decide_true, decide_false, Bool.not_true, Bool.not_false, Bool.not_eq_true, true_or, or_true, or_false, false_or, true_and, and_true, and_false, false_and, or_self, and_self]
    rw [bn_mul ((B.pc_sm (b := a) (by omega)).log_mul (B.pc_sm (b := b) (by omega)) (by decide) (by decide) (by decide))]
    simp -dsimp (disch := omega) only [ev, ofS_inj, String.reduceEq, Int.reduceNeg, decide_true, decide_false, Bool.not_true, Bool.not_false, Bool.not_eq_true, true_or, or_true, or_false, false_or, true_and, and_true, and_false, false_and, or_self, and_self]
    exact q
  case eith a b i1 i2 => simp -dsimp (disch := omega) only [B.d, i1 K (by omega) (by omega), i2 K (by omega) (by omega), wp_pure, ev, ofS_inj, String.reduceEq, Int.reduceNeg, decide_true, decide_false, Bool.not_true, Bool.not_false, Bool.not_eq_true, true_or, or_true, or_false, false_or, true_and, and_true, and_false, false_and, or_self, and_self]; exact q
  case take j n a b i1 i2 => simp -dsimp (disch := omega) only [B.d, i1 K (by omega) (by omega), i2 K (by omega) (by omega), wp_pure, ev, ofS_inj, String.reduceEq, Int.reduceNeg, decide_true, decide_false, Bool.not_true, Bool.not_false, Bool.not_eq_true, true_or, or_true, or_false, false_or, true_and, and_true, and_false, false_and, or_self, and_self]; exact q
  all_goals (simp -dsimp (disch := omega) only [B.d, ev, ofS_inj, String.reduceEq, Int.reduceNeg, decide_true, decide_false, Bool.not_true, Bool.not_false, Bool.not_eq_true, true_or, or_true, or_false, false_or, true_and, and_true, and_false, false_and, or_self, and_self]; exact q)
theorem round_ok (b : B) : ∀ K, b.dp < K → b.pt ≤ 10000 → callP U G K 48 [b.d] = M.pure (.v (.int b.rc)) := by
  induction b <;> (intro K hK hp; refine pure_of fun μ Q q => ?_; obtain ⟨K, rfl⟩ := kS hK; try simp only [B.dp] at hK; try simp only [B.pt] at hp; rw [c_l_round_count]; unfold b_l_round_count)
  case oft a i1 => simp -dsimp (disch := omega) only [B.d, pass_ok a K (by omega) (by omega), i1 K (by omega) (by omega), wp_pure, ev, ofS_inj, String.reduceEq, Int.reduceNeg, decide_true, decide_false, Bool.not_true, Bool.not_false, Bool.not_eq_true, true_or, or_true, or_false, false_or, true_and, and_true, and_false, false_and, or_self, and_self]; exact q
  case thn a b i1 i2 => simp -dsimp (disch := omega) only [B.d, i1 K (by omega) (by omega), i2 K (by omega) (by omega), wp_pure, ev, ofS_inj, String.reduceEq, Int.reduceNeg, decide_true, decide_false, Bool.not_true, Bool.not_false, Bool.not_eq_true, true_or, or_true, or_false, false_or, true_and, and_true, and_false, false_and, or_self, and_self]; exact q
  case eith a b i1 i2 => simp -dsimp (disch := omega) only [B.d, i1 K (by omega) (by omega), i2 K (by omega) (by omega), wp_pure, ev, ofS_inj, String.reduceEq, Int.reduceNeg, decide_true, decide_false, Bool.not_true, Bool.not_false, Bool.not_eq_true, true_or, or_true, or_false, false_or, true_and, and_true, and_false, false_and, or_self, and_self]; exact q
  case take j n a b i1 i2 => simp -dsimp (disch := omega) only [B.d, i1 K (by omega) (by omega), i2 K (by omega) (by omega), wp_pure, ev, ofS_inj, String.reduceEq, Int.reduceNeg, decide_true, decide_false, Bool.not_true, Bool.not_false, Bool.not_eq_true, true_or, or_true, or_false, false_or, true_and, and_true, and_false, false_and, or_self, and_self]; exact q
  all_goals (simp -dsimp (disch := omega) only [B.d, ev, ofS_inj, String.reduceEq, Int.reduceNeg, decide_true, decide_false, Bool.not_true, Bool.not_false, Bool.not_eq_true, true_or, or_true, or_false, false_or, true_and, and_true, and_false, false_and, or_self, and_self]; exact q)
/-- a body of a dealt house -/
structure Db (js : List Str) (most room : Nat) (b : B) : Prop where
  dp : b.dp ≤ 5
  al : b.All (· ∈ js) (fun _ => False) Nd Kd
  pc : b.pc + b.rc ≤ most
  pt : b.pt ≤ max room 4
section
variable {n K : Nat} {x : Dl n} {R : List Cell} {Q : RV → Sto → Prop} {E : XQ}
theorem leaf_pc {b : B} (h : b.dp = 0) : b.pc = 1 ∧ b.rc = 0 := by cases b <;> simp only [B.dp] at h <;> first | exact ⟨rfl, rfl⟩ | omega
theorem deed_ok {jd : D} {js : List Str} {most room : Nat} (hj : SeqS jd js) (hl : js.length < 2 ^ 60) (hm : 2 ≤ most) (hr : 1 ≤ room) (hr2 : room ≤ 9000) (hK : 9 < K) (q : ∀ (b : B) (x : Dl n) (S : List Cell), Db js most room b → Q (.v b.d) (st x (R ++ S))) : Wp (callP U G K 49 [.ref n, jd, .int room, .int most]) (st x R) Q E := by
  obtain ⟨K, rfl⟩ := kS (show 0 < K by omega)
  rw [c_l_deed_body]; unfold b_l_deed_body
  simp -dsimp (disch := omega) only [nw_st, ev, ofS_inj, String.reduceEq, Int.reduceNeg, decide_true, decide_false, Bool.not_true, Bool.not_false, Bool.not_eq_true, true_or, or_true, or_false, false_or, true_and, and_true, and_false, false_and, or_self, and_self]
  refine body_ok (j := R.length) (js := js) hj hl rfl 5 K ((room : Int) - 1) _ _ _ _ (by omega) (by simp) (by omega) fun b x w b1 w0 b2 b3 => ?_
  have bp : b.pt ≤ 10000 := by omega
  simp -dsimp (disch := omega) only [pass_ok b K (by omega) bp, round_ok b K (by omega) bp, wp_pure, ev, ofS_inj, String.reduceEq, Int.reduceNeg, decide_true, decide_false, Bool.not_true, Bool.not_false, Bool.not_eq_true, true_or, or_true, or_false, false_or, true_and, and_true, and_false, false_and, or_self, and_self]
  have set_app : (R ++ [Cell.lst [D.int ((room : Int) - 1)]]).set R.length (Cell.lst [D.int w]) = R ++ [Cell.lst [D.int w]] := by simp
  rw [set_app]
  refine br_d (fun c => ?_) fun c => ?_
  · simp -dsimp (disch := omega) only [ev, ofS_inj, String.reduceEq, Int.reduceNeg, decide_true, decide_false, Bool.not_true, Bool.not_false, Bool.not_eq_true, true_or, or_true, or_false, false_or, true_and, and_true, and_false, false_and, or_self, and_self]
    refine leaf_ok (by omega) hj hl fun b1 x p1 p2 p3 => ?_
    simp -dsimp (disch := omega) only [ev, ofS_inj, String.reduceEq, Int.reduceNeg, decide_true, decide_false, Bool.not_true, Bool.not_false, Bool.not_eq_true, true_or, or_true, or_false, false_or, true_and, and_true, and_false, false_and, or_self, and_self]
    refine leaf_ok (by omega) hj hl fun b2 x q1 q2 q3 => ?_
    simp -dsimp (disch := omega) only [ev, ofS_inj, String.reduceEq, Int.reduceNeg, decide_true, decide_false, Bool.not_true, Bool.not_false, Bool.not_eq_true, true_or, or_true, or_false, false_or, true_and, and_true, and_false, false_and, or_self, and_self]
    have l1 := leaf_pc p1
    have l2 := leaf_pc q1
    exact q (.thn (.oft b1) b2) x [_] ⟨by simp only [B.dp]; omega, ⟨p3, q3⟩, by simp only [B.pc, B.rc]; omega, by simp only [B.pt]; omega⟩
  · simp -dsimp (disch := omega) only [ev, ofS_inj, String.reduceEq, Int.reduceNeg, decide_true, decide_false, Bool.not_true, Bool.not_false, Bool.not_eq_true, true_or, or_true, or_false, false_or, true_and, and_true, and_false, false_and, or_self, and_self]
    exact q b x [_] ⟨b1, b3, by omega, by omega⟩
end
theorem all2_get {α : Type} {f : α → D} {P : Nat → α → Prop} : ∀ {ds : List D} {os : List (Option D)}, All2 (fun d o => ∀ i : Nat, d = .int (0 + (i : Int)) → ∃ a, o = some (f a) ∧ P i a) ds os → ∀ k, ds = (List.range' k ds.length).map (fun i : Nat => D.int (0 + (i : Int))) → ∃ as : List α, os.filterMap id = as.map f ∧ as.length = ds.length ∧ ∀ i a, as[i]? = some a → P (k + i) a := by
  intro ds os h
  induction h with
  | nil => intro k _; exact ⟨[], rfl, rfl, fun i a h => by simp at h⟩
  | @cons d o ds os h _ ih =>
    intro k e
    rw [List.length_cons, List.range'_succ, List.map_cons] at e
    have e1 := (List.cons.inj e).1
    have e2 := (List.cons.inj e).2
    obtain ⟨a, rfl, ha⟩ := h k e1
    obtain ⟨as, g1, g2, g3⟩ := ih (k + 1) e2
    refine ⟨a :: as, by simp [g1], by simp [g2], fun i b hb => ?_⟩
    cases i with
    | zero => simp at hb; subst hb; exact ha
    | succ i =>
      have := g3 i b (by simpa using hb)
      rw [show k + (i + 1) = k + 1 + i by omega]; exact this
theorem rng_range (z : Int) : rngL z = (List.range' 0 (rngL z).length).map (fun i : Nat => D.int (0 + (i : Int))) := by
  rw [rngL_len]
  unfold rngL
  rw [List.range_eq_range']
/-- a house -/
structure Hs where
  jars : List Str
  deeds : List (Str × B)
def dP (p : Str × B) : D := .tup [.str p.1, p.2.d]
def Hs.d (h : Hs) : D := .tup [.tup (h.jars.map .str), .tup (h.deeds.map dP)]
structure HsOk (mj md most room : Nat) (h : Hs) : Prop where
  jl : h.jars.length ≤ mj
  jn : h.jars.Nodup
  jm : ∀ j ∈ h.jars, Nm j
  d1 : 1 ≤ h.deeds.length
  dl : h.deeds.length ≤ md
  dn : (h.deeds.map (·.1)).Nodup
  dm : ∀ p ∈ h.deeds, Nm p.1
  db : ∀ p ∈ h.deeds, Db h.jars most room p.2
theorem names_of {ws : List Str} {as : List (Str × B)} {f : Nat} (h : ∀ i a, as[i]? = some a → ws[f + (0 + i)]? = some a.1) : as.map (·.1) = (ws.drop f).take as.length := by
  apply List.ext_getElem?
  intro i
  rw [List.getElem?_map, List.getElem?_take]
  by_cases hi : i < as.length
  · rw [if_pos hi, List.getElem?_eq_getElem hi, List.getElem?_drop]
    have := h i _ (List.getElem?_eq_getElem hi)
    rw [Nat.zero_add] at this
    exact this.symm
  · rw [if_neg hi, List.getElem?_eq_none (by omega)]; rfl
section
variable {n K : Nat} {x : Dl n} {R : List Cell} {Q : RV → Sto → Prop} {E : XQ}
theorem fdiv24 {m : Nat} : (24 : Int) / (m : Int) = ((24 / m : Nat) : Int) := rfl
/-- the deeds of a house -/
theorem deeds_cmp {js ws : List Str} {most room f m : Nat} {e : J.E} {ρ : Env} {own : List Nat} {t : T} (hm : f + m ≤ ws.length) (hmm : m ≤ 1000) (nm : ∀ w ∈ ws, Nm w) (nd : ws.Nodup)
    (go : ∀ (i : Nat) (w : Str) (x : Dl n) (S : List Cell) (P : Option D → Sto → Prop), i < m → ws[f + i]? = some w → (∀ (b : B) (x : Dl n) (S : List Cell), Db js most room b → P (some (dP (w, b))) (st x (R ++ S))) → Ci (callP U G K) G own t none e ρ (.int (0 + (i : Int))) (st x (R ++ S)) P)
    (q : ∀ (ps : List (Str × B)) (x : Dl n) (S : List Cell), ps.length = m → (ps.map (·.1)).Nodup → (∀ p ∈ ps, Nm p.1) → (∀ p ∈ ps, Db js most room p.2) → Q (.fr (ps.map dP)) (st x (R ++ S))) :
    Cmp (callP U G K) G own t none e (rngL (m : Int)) ρ (st x R) Q := by
  refine cmp_inv (fun μ => ∃ (x : Dl n) (S : List Cell), μ = st x (R ++ S)) (fun d o => ∀ i : Nat, d = .int (0 + (i : Int)) → ∃ p : Str × B, o = some (dP p) ∧ (ws[f + i]? = some p.1 ∧ Nm p.1 ∧ Db js most room p.2)) (by rw [rngL_len]; omega) ⟨x, [], by rw [List.append_nil]⟩ ?_ ?_
  · rintro d hd μ ⟨x, S, rfl⟩
    unfold rngL at hd
    obtain ⟨i, hi, rfl⟩ := List.mem_map.mp hd
    have hi : i < m := by have := List.mem_range.mp hi; omega
    have hw : f + i < ws.length := by omega
    refine go i ws[f + i] x S _ hi (List.getElem?_eq_getElem hw) fun b x S db => ⟨⟨x, S, rfl⟩, fun j ej => ?_⟩
    have : i = j := by
      have := D.int.inj ej
      omega
    subst this
    exact ⟨_, rfl, List.getElem?_eq_getElem hw, nm _ (List.getElem_mem hw), db⟩
  · rintro os μ ⟨x, S, rfl⟩ h2
    obtain ⟨ps, e1, e2, e3⟩ := all2_get (f := dP) (P := fun i (p : Str × B) => ws[f + i]? = some p.1 ∧ Nm p.1 ∧ Db js most room p.2) h2 0 (rng_range _)
    rw [e1]
    have hl : ps.length = m := by rw [e2, rngL_len]; omega
    have e4 : ∀ p ∈ ps, Nm p.1 ∧ Db js most room p.2 := fun p hp => by
      obtain ⟨i, hi⟩ := List.mem_iff_getElem?.mp hp
      exact (e3 i p hi).2
    refine q ps x S hl ?_ (fun p hp => (e4 p hp).1) fun p hp => (e4 p hp).2
    rw [names_of fun i a h => (e3 i a h).1]
    exact (nd.sublist (List.drop_sublist _ _)).sublist (List.take_sublist _ _)
theorem house_ok {mj md room : Nat} (hj : mj ≤ 8) (h1 : 1 ≤ md) (h2 : md ≤ 4) (hr : 1 ≤ room) (hr2 : room ≤ 9000) (hK : 10 < K) (q : ∀ (h : Hs) (x : Dl n) (S : List Cell), HsOk mj md (24 / h.deeds.length) room h → Q (.v h.d) (st x (R ++ S))) : Wp (callP U G K 50 [.ref n, .int mj, .int md, .int room]) (st x R) Q E := by
  obtain ⟨K, rfl⟩ := kS (show 0 < K by omega)
  obtain ⟨K, rfl⟩ := kS (show 0 < K by omega)
  rw [c_l_house]; unfold b_l_house
  simp -dsimp (disch := omega) only [ev, ofS_inj, String.reduceEq, Int.reduceNeg, decide_true, decide_false, Bool.not_true, Bool.not_false, Bool.not_eq_true, true_or, or_true, or_false, false_or, true_and, and_true, and_false, false_and, or_self, and_self]
  refine words_ok (by omega) (by decide) (by decide) fun ws x wl nd nm => ?_
  have wl : ws.length = 8 := wl
  simp -dsimp (disch := omega) only [ev, ofS_inj, String.reduceEq, Int.reduceNeg, decide_true, decide_false, Bool.not_true, Bool.not_false, Bool.not_eq_true, true_or, or_true, or_false, false_or, true_and, and_true, and_false, false_and, or_self, and_self]
  refine draw_ok (by first | decide | omega) (by first | decide | omega) fun r1 x r10 r11 => ?_
  simp -dsimp (disch := omega) only [cut_to r10, ev, ofS_inj, String.reduceEq, Int.reduceNeg, decide_true, decide_false, Bool.not_true, Bool.not_false, Bool.not_eq_true, true_or, or_true, or_false, false_or, true_and, and_true, and_false, false_and, or_self, and_self]
  rw [← List.map_take]
  refine draw_ok (by first | decide | omega) (by first | decide | omega) fun r2 x r20 r21 => ?_
  simp -dsimp (disch := omega) only [ev, ofS_inj, String.reduceEq, Int.reduceNeg, decide_true, decide_false, Bool.not_true, Bool.not_false, Bool.not_eq_true, true_or, or_true, or_false, false_or, true_and, and_true, and_false, false_and, or_self, and_self]
  refine ata_ok r20 r21 fun y hy _ => ?_
  have hy : ∃ f : Nat, y = .int (f : Int) ∧ f ≤ 4 := by
    simp only [List.mem_cons, List.not_mem_nil, or_false] at hy
    rcases hy with rfl | rfl
    · exact ⟨0, rfl, by decide⟩
    · exact ⟨4, rfl, by decide⟩
  obtain ⟨f, rfl, hf⟩ := hy
  simp -dsimp (disch := omega) only [ev, ofS_inj, String.reduceEq, Int.reduceNeg, decide_true, decide_false, Bool.not_true, Bool.not_false, Bool.not_eq_true, true_or, or_true, or_false, false_or, true_and, and_true, and_false, false_and, or_self, and_self]
  refine draw_ok (by first | decide | omega) (by first | decide | omega) fun r3 x r30 r31 => ?_
  simp -dsimp (disch := omega) only [ev, ofS_inj, String.reduceEq, Int.reduceNeg, decide_true, decide_false, Bool.not_true, Bool.not_false, Bool.not_eq_true, true_or, or_true, or_false, false_or, true_and, and_true, and_false, false_and, or_self, and_self]
  obtain ⟨m, hm⟩ : ∃ m : Nat, 1 + r3 = (m : Int) := ⟨(1 + r3).toNat, by omega⟩
  rw [hm]
  refine ⟨by omega, ?_⟩
  have jl : (ws.take r1.toNat).length ≤ mj := by rw [List.length_take]; omega
  have m0 : 2 ≤ 24 / m := (Nat.le_div_iff_mul_le (by omega)).mpr (by omega)
  refine deeds_cmp (js := ws.take r1.toNat) (ws := ws) (most := 24 / m) (room := room) (f := f) (m := m) (by omega) (by omega) nm nd ?_ ?_
  · intro i w x S P hi hw qq
    have ew : (ws.map D.str)[((f : Int) + (0 + (i : Int))).toNat]? = some (.str w) := by
      rw [List.getElem?_map, show ((f : Int) + (0 + (i : Int))).toNat = f + i by omega, hw]; rfl
    simp -dsimp (disch := omega) only [ata_of (show (0 : Int) ≤ (f : Int) + (0 + (i : Int)) by omega) ew, ev, ofS_inj, String.reduceEq, Int.reduceNeg, decide_true, decide_false, Bool.not_true, Bool.not_false, Bool.not_eq_true, true_or, or_true, or_false, false_or, true_and, and_true, and_false, false_and, or_self, and_self]
    rw [bn_fdiv (by omega) (log_sm (by omega) (by omega)), fdiv24]
    simp -dsimp (disch := omega) only [ev, ofS_inj, String.reduceEq, Int.reduceNeg, decide_true, decide_false, Bool.not_true, Bool.not_false, Bool.not_eq_true, true_or, or_true, or_false, false_or, true_and, and_true, and_false, false_and, or_self, and_self]
    refine deed_ok (js := ws.take r1.toNat) (.inl rfl) (by omega) m0 hr hr2 (by omega) fun b x S2 db => ?_
    simp -dsimp (disch := omega) only [ev, ofS_inj, String.reduceEq, Int.reduceNeg, decide_true, decide_false, Bool.not_true, Bool.not_false, Bool.not_eq_true, true_or, or_true, or_false, false_or, true_and, and_true, and_false, false_and, or_self, and_self]
    rw [List.append_assoc]
    exact qq b x _ db
  · intro ps x S hl nd2 nm2 db2
    simp -dsimp (disch := omega) only [ev, ofS_inj, String.reduceEq, Int.reduceNeg, decide_true, decide_false, Bool.not_true, Bool.not_false, Bool.not_eq_true, true_or, or_true, or_false, false_or, true_and, and_true, and_false, false_and, or_self, and_self]
    refine q ⟨ws.take r1.toNat, ps⟩ x S ⟨jl, nd.sublist (List.take_sublist _ _), fun j hj => nm j (List.mem_of_mem_take hj), by show 1 ≤ ps.length; omega, by show ps.length ≤ md; omega, nd2, nm2, ?_⟩
    show ∀ p ∈ ps, Db (ws.take r1.toNat) (24 / ps.length) room p.2
    rw [hl]
    exact db2
end
end J
/-! S24: a deed cut. -/
namespace J
open PySem L2
def enP : Nat → List D → List (Int × D)
  | _, [] => []
  | n, d :: r => ((n : Int), d) :: enP (n + 1) r
def enc2 (p : Int × D) : D := .tup [.int p.1, p.2]
theorem enP_is : ∀ (ds : List D) (n : Nat), enumD n ds = (enP n ds).map enc2
  | [], _ => rfl
  | d :: r, n => by simp only [enumD, enP, List.map_cons, enc2]; rw [enP_is r (n + 1)]
theorem enP_len : ∀ (ds : List D) (n : Nat), (enP n ds).length = ds.length
  | [], _ => rfl
  | d :: r, n => by simp only [enP, List.length_cons]; rw [enP_len r (n + 1)]
theorem enP_past : ∀ (ds : List D) (n k : Nat), k < n → ((enP n ds).filter fun p => !decide (p.1 = (k : Int))).map (·.2) = ds
  | [], _, _, _ => rfl
  | d :: r, n, k, h => by
    have e : (!decide ((n : Int) = (k : Int))) = true := by rw [decide_eq_false (by omega)]; rfl
    simp only [enP]
    rw [List.filter_cons_of_pos (by exact e), List.map_cons, enP_past r (n + 1) k (by omega)]
theorem enP_cut : ∀ (ds : List D) (n k : Nat), ((enP n ds).filter fun p => !decide (p.1 = ((n + k : Nat) : Int))).map (·.2) = ds.take k ++ ds.drop (k + 1)
  | [], _, k => by simp [enP]
  | d :: r, n, 0 => by
    have e : ¬ (!decide ((n : Int) = ((n + 0 : Nat) : Int))) = true := by rw [decide_eq_true (by omega)]; decide
    simp only [enP]
    rw [List.filter_cons_of_neg (by exact e), enP_past r (n + 1) (n + 0) (by omega)]
    rfl
  | d :: r, n, k + 1 => by
    have e : (!decide ((n : Int) = ((n + (k + 1) : Nat) : Int))) = true := by rw [decide_eq_false (by omega)]; rfl
    simp only [enP]
    rw [List.filter_cons_of_pos (by exact e), List.map_cons, show n + (k + 1) = n + 1 + k by omega, enP_cut r (n + 1) k]
    rfl
/-- a body has a text -/
theorem body_ps {b : B} (h : b.All Nm (fun _ => False) Nd Kd) : Ps (b.dp + 2) b.d ∧ szD b.d ≤ 2000 * 4 ^ b.dp := by
  have tag : ∀ {k : Nat} (s : String), PyData.strOk (s : Str) = true → Ps k (.str s) := fun s h => .str h
  have p4 : ∀ k : Nat, 1 ≤ 4 ^ k := fun k => Nat.pow_pos (by decide)
  have mx : ∀ a b : Nat, 4 ^ a ≤ 4 ^ (max a b) ∧ 4 ^ b ≤ 4 ^ (max a b) := fun a b => ⟨Nat.pow_le_pow_right (by decide) (by omega), Nat.pow_le_pow_right (by decide) (by omega)⟩
  have big : (10 : Nat) ≤ 10 ^ 500 := by decide +kernel
  have nd : ∀ {k : Nat} {n : Int}, Nd n → Ps k (.int n) := fun h => .int _ (by have := h.1; have := h.2; generalize 10 ^ 500 = X at big; omega)
  induction b with
  | rest =>
    refine ⟨.tup fun d hd => ?_, by decide⟩
    rw [List.mem_singleton.mp hd]; exact .str (by decide +kernel)
  | pay t b =>
    have big : (10000 : Nat) < 10 ^ 500 := by decide +kernel
    obtain ⟨h1, h2, h3, h4, _⟩ := h
    refine ⟨.tup fun d hd => ?_, by simp [B.d, szD, szDs, B.dp]; decide⟩
    simp only [List.mem_cons, List.not_mem_nil, or_false] at hd
    rcases hd with rfl | rfl
    · exact .str (by decide +kernel)
    · refine .tup fun d hd => ?_
      simp only [List.mem_cons, List.not_mem_nil, or_false] at hd
      generalize hX : 10 ^ 500 = X at big
      rcases hd with rfl | rfl <;> exact .int _ (by rw [hX]; omega)
  | put j n =>
    have hl := h.1.len
    have e : ("put" : Str).length ≤ 6 := by decide +kernel
    refine ⟨.tup fun d hd => ?_, by simp only [B.d, szD, szDs, B.dp]; omega⟩
    simp only [List.mem_cons, List.not_mem_nil, or_false] at hd
    rcases hd with rfl | rfl | rfl
    · exact .str (by decide +kernel)
    · exact .str h.1.ok
    · exact nd h.2
  | use d => exact h.elim
  | thn a b ia ib =>
    obtain ⟨g1, g2⟩ := ia h.1
    obtain ⟨k1, k2⟩ := ib h.2
    have hx := mx a.dp b.dp
    have hp := p4 (max a.dp b.dp)
    have e : ("then" : Str).length ≤ 6 := by decide +kernel
    refine ⟨.tup fun d hd => ?_, ?_⟩
    · simp only [List.mem_cons, List.not_mem_nil, or_false] at hd
      rcases hd with rfl | rfl | rfl
      · exact .str (by decide +kernel)
      · exact g1.mono (by simp only [B.dp]; omega)
      · exact k1.mono (by simp only [B.dp]; omega)
    · simp only [B.d, szD, szDs, B.dp, Nat.pow_succ]; omega
  | eith a b ia ib =>
    obtain ⟨g1, g2⟩ := ia h.1
    obtain ⟨k1, k2⟩ := ib h.2
    have hx := mx a.dp b.dp
    have hp := p4 (max a.dp b.dp)
    have e : ("either" : Str).length ≤ 6 := by decide +kernel
    refine ⟨.tup fun d hd => ?_, ?_⟩
    · simp only [List.mem_cons, List.not_mem_nil, or_false] at hd
      rcases hd with rfl | rfl | rfl
      · exact .str (by decide +kernel)
      · exact g1.mono (by simp only [B.dp]; omega)
      · exact k1.mono (by simp only [B.dp]; omega)
    · simp only [B.d, szD, szDs, B.dp, Nat.pow_succ]; omega
  | take j n a b ia ib =>
    obtain ⟨g1, g2⟩ := ia h.2.2.1
    obtain ⟨k1, k2⟩ := ib h.2.2.2
    have hx := mx a.dp b.dp
    have hp := p4 (max a.dp b.dp)
    have e : ("take" : Str).length ≤ 6 := by decide +kernel
    refine ⟨.tup fun d hd => ?_, ?_⟩
    · simp only [List.mem_cons, List.not_mem_nil, or_false] at hd
      rcases hd with rfl | rfl | rfl | rfl | rfl
      · exact .str (by decide +kernel)
      · exact .str h.1.ok
      · exact nd h.2.1
      · exact g1.mono (by simp only [B.dp]; omega)
      · exact k1.mono (by simp only [B.dp]; omega)
    · simp only [B.d, szD, szDs, B.dp, Nat.pow_succ]; have hl := h.1.len; omega
  | oft a ia =>
    obtain ⟨g1, g2⟩ := ia h
    have hp := p4 a.dp
    have e : ("often" : Str).length ≤ 6 := by decide +kernel
    refine ⟨.tup fun d hd => ?_, ?_⟩
    · simp only [List.mem_cons, List.not_mem_nil, or_false] at hd
      rcases hd with rfl | rfl
      · exact .str (by decide +kernel)
      · exact g1.mono (by simp only [B.dp]; omega)
    · simp only [B.d, szD, szDs, B.dp, Nat.pow_succ]; omega
section
variable {Q : RV → Sto → Prop} {E : XQ} {K : Nat} {μ : Sto}
theorem cut_ok {js : D} {ds : List D} {d : Nat} (hd : d < ds.length) (hl : ds.length ≤ 100) (hK : 0 < K) (q : Q (.v (.tup [js, .tup (ds.take d ++ ds.drop (d + 1))])) μ) : Wp (callP U G K 87 [.tup [js, .tup ds], .int (d : Int)]) μ Q E := by
  obtain ⟨K, rfl⟩ := kS hK
  rw [c_cut]; unfold b_cut
  simp -dsimp (disch := omega) only [ev, ofS_inj, String.reduceEq, Int.reduceNeg, decide_true, decide_false, Bool.not_true, Bool.not_false, Bool.not_eq_true, true_or, or_true, or_false, false_or, true_and, and_true, and_false, false_and, or_self, and_self]
  rw [cut_from (show (0 : Int) ≤ (d : Int) + 1 by omega), show ((d : Int) + 1).toNat = d + 1 by omega]
  rw [bn_addt (by simp only [List.length_take, List.length_drop]; omega)]
  simp -dsimp (disch := omega) only [ev, ofS_inj, String.reduceEq, Int.reduceNeg, decide_true, decide_false, Bool.not_true, Bool.not_false, Bool.not_eq_true, true_or, or_true, or_false, false_or, true_and, and_true, and_false, false_and, or_self, and_self]
  exact q
theorem due_ok {js : D} {ds : List D} {d : Nat} (hl : ds.length ≤ 100) (hK : 0 < K) (q : Q (.v (.tup [js, .tup (ds.take d ++ ds.drop (d + 1))])) μ) : Wp (callP U G K 89 [.tup [js, .tup ds], .int (d : Int)]) μ Q E := by
  obtain ⟨K, rfl⟩ := kS hK
  rw [c_l_due]; unfold b_l_due
  simp -dsimp (disch := omega) only [ev, ofS_inj, String.reduceEq, Int.reduceNeg, decide_true, decide_false, Bool.not_true, Bool.not_false, Bool.not_eq_true, true_or, or_true, or_false, false_or, true_and, and_true, and_false, false_and, or_self, and_self]
  rw [enP_is, cmp_filt (h := fun p => p.2) (p := fun p => !decide (p.1 = (d : Int))) (by rw [enP_len]; omega) fun a _ R hR => by
    obtain ⟨i, a⟩ := a
    unfold enc2
    simp -dsimp (disch := omega) only [ev, ofS_inj, String.reduceEq, Int.reduceNeg, decide_true, decide_false, Bool.not_true, Bool.not_false, Bool.not_eq_true, true_or, or_true, or_false, false_or, true_and, and_true, and_false, false_and, or_self, and_self]
    by_cases hc : i = (d : Int)
    · simp -dsimp (disch := omega) only [hc, ev, ofS_inj, String.reduceEq, Int.reduceNeg, decide_true, decide_false, Bool.not_true, Bool.not_false, Bool.not_eq_true, true_or, or_true, or_false, false_or, true_and, and_true, and_false, false_and, or_self, and_self]
      simpa [hc] using hR
    · simp -dsimp (disch := omega) only [hc, ev, ofS_inj, String.reduceEq, Int.reduceNeg, decide_true, decide_false, Bool.not_true, Bool.not_false, Bool.not_eq_true, true_or, or_true, or_false, false_or, true_and, and_true, and_false, false_and, or_self, and_self]
      simpa [hc] using hR]
  have e := enP_cut ds 0 d
  rw [Nat.zero_add] at e
  rw [e]
  simp -dsimp (disch := omega) only [ev, ofS_inj, String.reduceEq, Int.reduceNeg, decide_true, decide_false, Bool.not_true, Bool.not_false, Bool.not_eq_true, true_or, or_true, or_false, false_or, true_and, and_true, and_false, false_and, or_self, and_self]
  exact q
theorem szDs_le {m : Nat} : ∀ (ds : List D), (∀ d ∈ ds, szD d ≤ m) → szDs ds ≤ ds.length * (m + 2)
  | [], _ => by simp [szDs]
  | d :: r, h => by
    have h1 := h d List.mem_cons_self
    have h2 := szDs_le r fun d hd => h d (List.mem_cons_of_mem _ hd)
    simp only [szDs, List.length_cons, Nat.add_mul]; omega
/-- a house with a text -/
structure HsT (js : List Str) (ps : List (Str × B)) : Prop where
  jl : js.length ≤ 8
  jm : ∀ j ∈ js, Nm j
  dl : ps.length ≤ 4
  dm : ∀ p ∈ ps, Nm p.1 ∧ p.2.dp ≤ 5 ∧ p.2.All Nm (fun _ => False) Nd Kd
theorem HsT.cut {js : List Str} {ps : List (Str × B)} (h : HsT js ps) (d : Nat) : HsT js (ps.take d ++ ps.drop (d + 1)) := ⟨h.jl, h.jm, by have := h.dl; simp only [List.length_append, List.length_take, List.length_drop]; omega, fun p hp => by
  rcases List.mem_append.mp hp with hp | hp
  · exact h.dm p (List.mem_of_mem_take hp)
  · exact h.dm p (List.mem_of_mem_drop hp)⟩
theorem HsT.rp {js : List Str} {ps : List (Str × B)} (h : HsT js ps) : ∃ z, reprD (Hs.d ⟨js, ps⟩) = some z := by
  have dd : ∀ d ∈ ps.map dP, Ps 9 d ∧ szD d ≤ 2048200 := fun d hd => by
    obtain ⟨p, hp, rfl⟩ := List.mem_map.mp hd
    obtain ⟨h1, h2, h3⟩ := h.dm p hp
    obtain ⟨g1, g2⟩ := body_ps h3
    have hl := h1.len
    have h4 : 4 ^ p.2.dp ≤ 4 ^ 5 := Nat.pow_le_pow_right (by decide) h2
    refine ⟨.tup fun d hd => ?_, by simp only [dP, szD, szDs]; omega⟩
    simp only [List.mem_cons, List.not_mem_nil, or_false] at hd
    rcases hd with rfl | rfl
    · exact .str h1.ok
    · exact g1.mono (by omega)
  have jj : ∀ d ∈ js.map D.str, Ps 9 d ∧ szD d ≤ 62 := fun d hd => by
    obtain ⟨p, hp, rfl⟩ := List.mem_map.mp hd
    have hl := (h.jm p hp).len
    exact ⟨.str (h.jm p hp).ok, by simp only [szD]; omega⟩
  have s1 := szDs_le (ps.map dP) fun d hd => (dd d hd).2
  have s2 := szDs_le (js.map D.str) fun d hd => (jj d hd).2
  rw [List.length_map] at s1 s2
  have l1 := Nat.mul_le_mul_right (2048200 + 2) h.dl
  have l2 := Nat.mul_le_mul_right (62 + 2) h.jl
  refine J.rp (k := 11) ?_ (by decide) (by simp only [Hs.d, szD, szDs]; omega)
  refine .tup fun d hd => ?_
  simp only [List.mem_cons, List.not_mem_nil, or_false] at hd
  rcases hd with rfl | rfl
  · exact .tup fun d hd => (jj d hd).1
  · exact .tup fun d hd => (dd d hd).1
theorem cutH {js : List Str} {ps : List (Str × B)} {d : Nat} (hd : d < ps.length) (h : HsT js ps) (hK : 0 < K) (q : Q (.v (Hs.d ⟨js, ps.take d ++ ps.drop (d + 1)⟩)) μ) : Wp (callP U G K 87 [Hs.d ⟨js, ps⟩, .int (d : Int)]) μ Q E := by
  have := h.dl
  refine cut_ok (by rw [List.length_map]; exact hd) (by rw [List.length_map]; show ps.length ≤ 100; omega) hK ?_
  rw [← List.map_take, ← List.map_drop, ← List.map_append]; exact q
theorem dueH {js : List Str} {ps : List (Str × B)} {d : Nat} (h : HsT js ps) (hK : 0 < K) (q : Q (.v (Hs.d ⟨js, ps.take d ++ ps.drop (d + 1)⟩)) μ) : Wp (callP U G K 89 [Hs.d ⟨js, ps⟩, .int (d : Int)]) μ Q E := by
  have := h.dl
  refine due_ok (by rw [List.length_map]; show ps.length ≤ 100; omega) hK ?_
  rw [← List.map_take, ← List.map_drop, ← List.map_append]; exact q
end
section
variable {n K : Nat} {x : Dl n} {R : List Cell} {Q : RV → Sto → Prop} {E : XQ}
theorem one_left_ok {js : List Str} {ps : List (Str × B)} (h : HsT js ps) (h1 : 1 ≤ ps.length) (hK : 5 < K) (q : ∀ (x : Dl n), Q (.v (.bl true)) (st x R)) : Wp (callP U G K 90 [.ref n, Hs.d ⟨js, ps⟩]) (st x R) Q E := by
  obtain ⟨K, rfl⟩ := kS (show 0 < K by omega)
  obtain ⟨K, rfl⟩ := kS (show 0 < K by omega)
  rw [c_l_one_left]; unfold b_l_one_left
  simp -dsimp (disch := omega) only [ev, ofS_inj, String.reduceEq, Int.reduceNeg, decide_true, decide_false, Bool.not_true, Bool.not_false, Bool.not_eq_true, true_or, or_true, or_false, false_or, true_and, and_true, and_false, false_and, or_self, and_self]
  refine whl_inv (fun m ρ μ' => ∃ (ps : List (Str × B)) (x : Dl n) (a b : Slot), μ' = st x R ∧ HsT js ps ∧ 1 ≤ ps.length ∧ ps.length = m ∧ ρ = [.val (.ref n), .val (Hs.d ⟨js, ps⟩), a, b]) (n := ps.length) (by have := h.dl; omega) ⟨ps, _, _, _, rfl, h, h1, rfl, rfl⟩ ?_
  rintro m ρ μ' ⟨ps, x, a, b, rfl, h, h1, hl, rfl⟩
  have hd := h.dl
  have e0 : (ps.map dP).length = ps.length := List.length_map ..
  simp -dsimp (disch := omega) only [Hs.d, e0, ev, ofS_inj, String.reduceEq, Int.reduceNeg, decide_true, decide_false, Bool.not_true, Bool.not_false, Bool.not_eq_true, true_or, or_true, or_false, false_or, true_and, and_true, and_false, false_and, or_self, and_self]
  refine br_d (fun hp => ?_) fun hp => ?_
  · simp -dsimp (disch := omega) only [Hs.d, e0, ev, ofS_inj, String.reduceEq, Int.reduceNeg, decide_true, decide_false, Bool.not_true, Bool.not_false, Bool.not_eq_true, true_or, or_true, or_false, false_or, true_and, and_true, and_false, false_and, or_self, and_self]
    refine draw_ok (by omega) (by omega) fun r x r0 r1 => ?_
    simp -dsimp (disch := omega) only [ev, ofS_inj, String.reduceEq, Int.reduceNeg, decide_true, decide_false, Bool.not_true, Bool.not_false, Bool.not_eq_true, true_or, or_true, or_false, false_or, true_and, and_true, and_false, false_and, or_self, and_self]
    obtain ⟨d, rfl⟩ : ∃ d : Nat, r = (d : Int) := ⟨r.toNat, by omega⟩
    refine cutH (d := d) (js := js) (ps := ps) (by omega) h (by omega) ?_
    obtain ⟨z, hz⟩ := (h.cut d).rp
    simp -dsimp (disch := omega) only [bl_repr hz, ev, ofS_inj, String.reduceEq, Int.reduceNeg, decide_true, decide_false, Bool.not_true, Bool.not_false, Bool.not_eq_true, true_or, or_true, or_false, false_or, true_and, and_true, and_false, false_and, or_self, and_self]
    refine dueH (d := d) (js := js) (ps := ps) h (by omega) ?_
    simp -dsimp (disch := omega) only [bl_repr hz, cm_neSS, ev, ofS_inj, String.reduceEq, Int.reduceNeg, decide_true, decide_false, Bool.not_true, Bool.not_false, Bool.not_eq_true, true_or, or_true, or_false, false_or, true_and, and_true, and_false, false_and, or_self, and_self]
    refine ⟨_, ?_, ps.take d ++ ps.drop (d + 1), _, _, _, rfl, h.cut d, ?_, rfl, rfl⟩
    · rw [← hl, List.length_append, List.length_take, List.length_drop]; omega
    · rw [List.length_append, List.length_take, List.length_drop]; omega
  · have e1 : ps.length = 1 := by omega
    simp -dsimp (disch := omega) only [Hs.d, e0, e1, ev, ofS_inj, String.reduceEq, Int.reduceNeg, decide_true, decide_false, Bool.not_true, Bool.not_false, Bool.not_eq_true, true_or, or_true, or_false, false_or, true_and, and_true, and_false, false_and, or_self, and_self]
    exact q _
end
end J
/-! S25: some house. -/
namespace J
open PySem L2
section
variable {n K : Nat} {x : Dl n} {R : List Cell} {Q : RV → Sto → Prop} {E : XQ}
theorem bodies_cmp {js : List Str} {most room m : Nat} {e : J.E} {ρ : Env} {own : List Nat} {t : T} (hmm : m ≤ 1000)
    (go : ∀ (i : Nat) (x : Dl n) (S : List Cell) (P : Option D → Sto → Prop), i < m → (∀ (b : B) (x : Dl n) (S : List Cell), Db js most room b → P (some b.d) (st x (R ++ S))) → Ci (callP U G K) G own t none e ρ (.int (0 + (i : Int))) (st x (R ++ S)) P)
    (q : ∀ (bs : List B) (x : Dl n) (S : List Cell), bs.length = m → (∀ b ∈ bs, Db js most room b) → Q (.fr (bs.map B.d)) (st x (R ++ S))) :
    Cmp (callP U G K) G own t none e (rngL (m : Int)) ρ (st x R) Q := by
  refine cmp_inv (fun μ => ∃ (x : Dl n) (S : List Cell), μ = st x (R ++ S)) (fun d o => ∀ i : Nat, d = .int (0 + (i : Int)) → ∃ b : B, o = some b.d ∧ Db js most room b) (by rw [rngL_len]; omega) ⟨x, [], by rw [List.append_nil]⟩ ?_ ?_
  · rintro d hd μ ⟨x, S, rfl⟩
    unfold rngL at hd
    obtain ⟨i, hi, rfl⟩ := List.mem_map.mp hd
    have hi : i < m := by have := List.mem_range.mp hi; omega
    exact go i x S _ hi fun b x S db => ⟨⟨x, S, rfl⟩, fun j _ => ⟨b, rfl, db⟩⟩
  · rintro os μ ⟨x, S, rfl⟩ h2
    obtain ⟨bs, e1, e2, e3⟩ := all2_get (f := B.d) (P := fun _ (b : B) => Db js most room b) h2 0 (rng_range _)
    rw [e1]
    refine q bs x S (by rw [e2, rngL_len]; omega) fun b hb => ?_
    obtain ⟨i, hi⟩ := List.mem_iff_getElem?.mp hb
    exact e3 i b hi
theorem some_house_ok (hK : 12 < K) (q : ∀ (js : List Str) (ps : List (Str × B)) (x : Dl n) (S : List Cell), HsT js ps → 2 ≤ ps.length → Q (.v (Hs.d ⟨js, ps⟩)) (st x (R ++ S))) : Wp (callP U G K 88 [.ref n]) (st x R) Q E := by
  obtain ⟨K, rfl⟩ := kS (show 0 < K by omega)
  obtain ⟨K, rfl⟩ := kS (show 0 < K by omega)
  rw [c_l_some_house]; unfold b_l_some_house
  simp -dsimp (disch := omega) only [ev, ofS_inj, String.reduceEq, Int.reduceNeg, decide_true, decide_false, Bool.not_true, Bool.not_false, Bool.not_eq_true, true_or, or_true, or_false, false_or, true_and, and_true, and_false, false_and, or_self, and_self]
  refine words_ok (by omega) (by decide) (by decide) fun ws x wl nd nm => ?_
  have wl : ws.length = 8 := wl
  simp -dsimp (disch := omega) only [ev, ofS_inj, String.reduceEq, Int.reduceNeg, decide_true, decide_false, Bool.not_true, Bool.not_false, Bool.not_eq_true, true_or, or_true, or_false, false_or, true_and, and_true, and_false, false_and, or_self, and_self]
  refine draw_ok (by first | decide | omega) (by first | decide | omega) fun r1 x r10 r11 => ?_
  simp -dsimp (disch := omega) only [cut_to r10, ev, ofS_inj, String.reduceEq, Int.reduceNeg, decide_true, decide_false, Bool.not_true, Bool.not_false, Bool.not_eq_true, true_or, or_true, or_false, false_or, true_and, and_true, and_false, false_and, or_self, and_self]
  rw [← List.map_take]
  refine draw_ok (by first | decide | omega) (by first | decide | omega) fun r2 x r20 r21 => ?_
  simp -dsimp (disch := omega) only [ev, ofS_inj, String.reduceEq, Int.reduceNeg, decide_true, decide_false, Bool.not_true, Bool.not_false, Bool.not_eq_true, true_or, or_true, or_false, false_or, true_and, and_true, and_false, false_and, or_self, and_self]
  obtain ⟨m, hm⟩ : ∃ m : Nat, 2 + r2 = (m : Int) := ⟨(2 + r2).toNat, by omega⟩
  rw [hm]
  refine ⟨by omega, ?_⟩
  have m0 : 2 ≤ 24 / m := (Nat.le_div_iff_mul_le (by omega)).mpr (by omega)
  have tl : (ws.take r1.toNat).length ≤ 8 := by rw [List.length_take]; omega
  have tail : ∀ (bs : List B) (x : Dl n) (S : List Cell) (a b : Slot), bs.length = m → (∀ b ∈ bs, Db (ws.take r1.toNat) (24 / m) 10 b) → Rs (callP U G (K + 1)) G [.share 4, .asg (.nm 6) (.idx (.lst [(.lit (.int 0)), (.lit (.int 4))]) (.call 6 [(.var 0), (.lit (.int 2))])), .ret (.tup [(.var 2), (.blt .tuple [(.comp [5] (.nm 5) (.irng (.var 3)) none (.tup [(.idx (.var 1) (.bin .add (.var 6) (.var 5))), (.idx (.var 4) (.var 5))]))])])] [.val (.ref n), .val (.lst (ws.map .str)), .val (.tup ((ws.take r1.toNat).map .str)), .val (.int (m : Int)), .own (bs.map B.d), a, b] (st x (R ++ S)) (FinQ Q E ()) := by
    intro bs x S a b hl hb
    simp -dsimp (disch := omega) only [ev, ofS_inj, String.reduceEq, Int.reduceNeg, decide_true, decide_false, Bool.not_true, Bool.not_false, Bool.not_eq_true, true_or, or_true, or_false, false_or, true_and, and_true, and_false, false_and, or_self, and_self]
    refine draw_ok (by first | decide | omega) (by first | decide | omega) fun r5 x r50 r51 => ?_
    simp -dsimp (disch := omega) only [ev, ofS_inj, String.reduceEq, Int.reduceNeg, decide_true, decide_false, Bool.not_true, Bool.not_false, Bool.not_eq_true, true_or, or_true, or_false, false_or, true_and, and_true, and_false, false_and, or_self, and_self]
    refine ata_ok r50 r51 fun y hy _ => ?_
    have hy : ∃ f : Nat, y = .int (f : Int) ∧ f ≤ 4 := by
      simp only [List.mem_cons, List.not_mem_nil, or_false] at hy
      rcases hy with rfl | rfl
      · exact ⟨0, rfl, by decide⟩
      · exact ⟨4, rfl, by decide⟩
    obtain ⟨f, rfl, hf⟩ := hy
    simp -dsimp (disch := omega) only [ev, ofS_inj, String.reduceEq, Int.reduceNeg, decide_true, decide_false, Bool.not_true, Bool.not_false, Bool.not_eq_true, true_or, or_true, or_false, false_or, true_and, and_true, and_false, false_and, or_self, and_self]
    refine ⟨by omega, ?_⟩
    refine cmp_inv (fun μ => μ = st x (R ++ S)) (fun d o => ∀ i : Nat, d = .int (0 + (i : Int)) → ∃ p : Str × B, o = some (dP p) ∧ Nm p.1 ∧ p.2 ∈ bs) (by rw [rngL_len]; omega) rfl ?_ ?_
    · rintro d hd μ rfl
      unfold rngL at hd
      obtain ⟨i, hi, rfl⟩ := List.mem_map.mp hd
      have hi : i < m := by have := List.mem_range.mp hi; omega
      have hw : f + i < ws.length := by omega
      have ew : (ws.map D.str)[((f : Int) + (0 + (i : Int))).toNat]? = some (.str ws[f + i]) := by
        rw [List.getElem?_map, show ((f : Int) + (0 + (i : Int))).toNat = f + i by omega, List.getElem?_eq_getElem hw]; rfl
      have eb : (bs.map B.d)[((0 : Int) + (i : Int)).toNat]? = some (bs[i]'(by omega)).d := by
        rw [List.getElem?_map, show ((0 : Int) + (i : Int)).toNat = i by omega, List.getElem?_eq_getElem (by omega)]; rfl
      simp -dsimp (disch := omega) only [ata_of (show (0 : Int) ≤ (f : Int) + (0 + (i : Int)) by omega) ew, ata_of (show (0 : Int) ≤ 0 + (i : Int) by omega) eb, ev, ofS_inj, String.reduceEq, Int.reduceNeg, decide_true, decide_false, Bool.not_true, Bool.not_false, Bool.not_eq_true, true_or, or_true, or_false, false_or, true_and, and_true, and_false, false_and, or_self, and_self]
      exact fun _ _ => ⟨(ws[f + i], bs[i]'(by omega)), rfl, nm _ (List.getElem_mem hw), List.getElem_mem _⟩
    · rintro os μ rfl h2
      obtain ⟨ps, e1, e2, e3⟩ := all2_get (f := dP) (P := fun _ (p : Str × B) => Nm p.1 ∧ p.2 ∈ bs) h2 0 (rng_range _)
      rw [e1]
      have pl : ps.length = m := by rw [e2, rngL_len]; omega
      simp -dsimp (disch := omega) only [ev, ofS_inj, String.reduceEq, Int.reduceNeg, decide_true, decide_false, Bool.not_true, Bool.not_false, Bool.not_eq_true, true_or, or_true, or_false, false_or, true_and, and_true, and_false, false_and, or_self, and_self]
      refine q (ws.take r1.toNat) ps x S ⟨tl, fun j hj => nm j (List.mem_of_mem_take hj), by omega, fun p hp => ?_⟩ (by omega)
      obtain ⟨i, hi⟩ := List.mem_iff_getElem?.mp hp
      obtain ⟨g1, g2⟩ := e3 i p hi
      have db := hb _ g2
      exact ⟨g1, db.dp, db.al.mono (fun j hj => nm j (List.mem_of_mem_take hj)) (fun _ h => h) (fun _ h => h) fun _ _ h => h⟩
  refine bodies_cmp (js := ws.take r1.toNat) (most := 24 / m) (room := 10) (m := m) (by omega) ?_ ?_
  · intro i x S P hi qq
    simp -dsimp (disch := omega) only [ev, ofS_inj, String.reduceEq, Int.reduceNeg, decide_true, decide_false, Bool.not_true, Bool.not_false, Bool.not_eq_true, true_or, or_true, or_false, false_or, true_and, and_true, and_false, false_and, or_self, and_self]
    rw [bn_fdiv (by omega) (log_sm (by omega) (by omega)), fdiv24]
    simp -dsimp (disch := omega) only [ev, ofS_inj, String.reduceEq, Int.reduceNeg, decide_true, decide_false, Bool.not_true, Bool.not_false, Bool.not_eq_true, true_or, or_true, or_false, false_or, true_and, and_true, and_false, false_and, or_self, and_self]
    refine deed_ok (js := ws.take r1.toNat) (.inl rfl) (by rw [List.length_take]; omega) m0 (by decide) (by decide) (by omega) fun b x S2 db => ?_
    simp -dsimp (disch := omega) only [ev, ofS_inj, String.reduceEq, Int.reduceNeg, decide_true, decide_false, Bool.not_true, Bool.not_false, Bool.not_eq_true, true_or, or_true, or_false, false_or, true_and, and_true, and_false, false_and, or_self, and_self]
    rw [List.append_assoc]
    exact qq b x _ db
  · intro bs x S hl hb
    simp -dsimp (disch := omega) only [ev, ofS_inj, String.reduceEq, Int.reduceNeg, decide_true, decide_false, Bool.not_true, Bool.not_false, Bool.not_eq_true, true_or, or_true, or_false, false_or, true_and, and_true, and_false, false_and, or_self, and_self]
    refine draw_ok (by first | decide | omega) (by first | decide | omega) fun r3 x r30 r31 => ?_
    simp -dsimp (disch := omega) only [ev, ofS_inj, String.reduceEq, Int.reduceNeg, decide_true, decide_false, Bool.not_true, Bool.not_false, Bool.not_eq_true, true_or, or_true, or_false, false_or, true_and, and_true, and_false, false_and, or_self, and_self]
    refine br_d (fun hc => ?_) fun hc => ?_
    · simp -dsimp (disch := omega) only [hl, ev, ofS_inj, String.reduceEq, Int.reduceNeg, decide_true, decide_false, Bool.not_true, Bool.not_false, Bool.not_eq_true, true_or, or_true, or_false, false_or, true_and, and_true, and_false, false_and, or_self, and_self]
      have eb : (bs.map B.d)[(0 : Int).toNat]? = some (bs[0]'(by omega)).d := by
        rw [List.getElem?_map, show (0 : Int).toNat = 0 from rfl, List.getElem?_eq_getElem (by omega)]; rfl
      simp -dsimp (disch := omega) only [ata_of (show (0 : Int) ≤ 0 by decide) eb, ev, ofS_inj, String.reduceEq, Int.reduceNeg, decide_true, decide_false, Bool.not_true, Bool.not_false, Bool.not_eq_true, true_or, or_true, or_false, false_or, true_and, and_true, and_false, false_and, or_self, and_self]
      refine draw_ok (by first | decide | omega) (by first | decide | omega) fun r4 x r40 r41 => ?_
      rw [v_d, pm_bo (setD_ok r40 (by rw [List.length_map]; omega)), ← List.map_set]
      simp -dsimp only [sw_4, ks_nx, rs_nil]
      exact tail _ x S _ _ (by rw [List.length_set]; exact hl) fun b hb' => (List.mem_or_eq_of_mem_set hb').elim (hb b) fun e => e ▸ hb _ (List.getElem_mem _)
    · simp -dsimp only [ks_nx, rs_nil]
      exact tail bs x S _ _ hl hb
end
end J
/-! k50: the law. -/
namespace J
open PySem L2
theorem law_k50_ok {ns : List Int} (h : ns.length ≤ 63) : Wp (callP U G 40 91 [.src ns]) [] (fun rv _ => rv = .v (.bl true)) nE := by
  rw [c_law_k50]; unfold b_law_k50
  simp -dsimp (disch := omega) only [ev, ofS_inj, String.reduceEq, Int.reduceNeg, decide_true, decide_false, Bool.not_true, Bool.not_false, Bool.not_eq_true, true_or, or_true, or_false, false_or, true_and, and_true, and_false, false_and, or_self, and_self]
  refine deal_ok (P := []) h (by decide) (by decide) fun x => ?_
  simp -dsimp (disch := omega) only [ev, ofS_inj, String.reduceEq, Int.reduceNeg, decide_true, decide_false, Bool.not_true, Bool.not_false, Bool.not_eq_true, true_or, or_true, or_false, false_or, true_and, and_true, and_false, false_and, or_self, and_self]
  refine ⟨by decide, each_inv (fun ds ρ μ => ∃ (x2 x3 x4 x5 x6 : Slot) (x : Dl 1) (R : List Cell), ρ = [.val (.src ns), .val (.ref 1), x2, x3, x4, x5, x6] ∧ μ = st x R) ?_ ?_ ⟨_, _, _, _, _, x, _, rfl, rfl⟩⟩
  · rintro d ds ρ μ ⟨x2, x3, x4, x5, x6, x, R, rfl, rfl⟩
    simp -dsimp (disch := omega) only [ev, ofS_inj, String.reduceEq, Int.reduceNeg, decide_true, decide_false, Bool.not_true, Bool.not_false, Bool.not_eq_true, true_or, or_true, or_false, false_or, true_and, and_true, and_false, false_and, or_self, and_self]
    refine some_house_ok (by decide) fun js ps x S hh h2 => ?_
    have h4 := hh.dl
    obtain ⟨z, hz⟩ := hh.rp
    have e0 : (ps.map dP).length = ps.length := List.length_map ..
    simp -dsimp (disch := omega) only [bl_repr hz, ev, ofS_inj, String.reduceEq, Int.reduceNeg, decide_true, decide_false, Bool.not_true, Bool.not_false, Bool.not_eq_true, true_or, or_true, or_false, false_or, true_and, and_true, and_false, false_and, or_self, and_self]
    refine ⟨by decide, ?_⟩
    refine (each_inv (fun ds ρ μ => ∃ (x5 x6 : Slot), ρ = [.val (.src ns), .val (.ref 1), .val d, .val (Hs.d ⟨js, ps⟩), .val (.str z), x5, x6] ∧ μ = st x (R ++ S)) ?_ ?_ ?_ : _)
    · rintro d5 ds ρ μ ⟨x5, x6, rfl, rfl⟩
      simp -dsimp (disch := omega) only [Hs.d, e0, ev, ofS_inj, String.reduceEq, Int.reduceNeg, decide_true, decide_false, Bool.not_true, Bool.not_false, Bool.not_eq_true, true_or, or_true, or_false, false_or, true_and, and_true, and_false, false_and, or_self, and_self]
      refine ⟨by omega, ?_⟩
      refine each_inv (fun ds ρ μ => (∀ d ∈ ds, ∃ k : Nat, d = .int (k : Int) ∧ k < ps.length) ∧ ∃ (x6 : Slot), ρ = [.val (.src ns), .val (.ref 1), .val d, .val (Hs.d ⟨js, ps⟩), .val (.str z), .val d5, x6] ∧ μ = st x (R ++ S)) ?_ ?_ ⟨fun d hd => ?_, _, rfl, rfl⟩
      · rintro d2 ds ρ μ ⟨hd, x6, rfl, rfl⟩
        obtain ⟨k, rfl, hk⟩ := hd d2 List.mem_cons_self
        obtain ⟨z2, hz2⟩ := (hh.cut k).rp
        simp -dsimp only [bt_nm, sl_6]
        simp -dsimp (disch := omega) only [ev, ofS_inj, String.reduceEq, Int.reduceNeg, decide_true, decide_false, Bool.not_true, Bool.not_false, Bool.not_eq_true, true_or, or_true, or_false, false_or, true_and, and_true, and_false, false_and, or_self, and_self]
        refine cutH hk hh (by decide) ?_
        simp -dsimp (disch := omega) only [bl_repr hz2, ev, ofS_inj, String.reduceEq, Int.reduceNeg, decide_true, decide_false, Bool.not_true, Bool.not_false, Bool.not_eq_true, true_or, or_true, or_false, false_or, true_and, and_true, and_false, false_and, or_self, and_self]
        refine dueH hh (by decide) ?_
        simp -dsimp (disch := omega) only [bl_repr hz2, bl_repr hz, cm_neSS, ev, ofS_inj, String.reduceEq, Int.reduceNeg, decide_true, decide_false, Bool.not_true, Bool.not_false, Bool.not_eq_true, true_or, or_true, or_false, false_or, true_and, and_true, and_false, false_and, or_self, and_self]
        exact ⟨fun d hd' => hd d (List.mem_cons_of_mem _ hd'), _, rfl⟩
      · rintro ρ μ ⟨hd, x6, rfl, rfl⟩
        simp -dsimp (disch := omega) only [ev, ofS_inj, String.reduceEq, Int.reduceNeg, decide_true, decide_false, Bool.not_true, Bool.not_false, Bool.not_eq_true, true_or, or_true, or_false, false_or, true_and, and_true, and_false, false_and, or_self, and_self]
        exact ⟨_, _, rfl⟩
      · unfold rngL at hd
        obtain ⟨i, hi, rfl⟩ := List.mem_map.mp hd
        exact ⟨i, by rw [Int.zero_add], by have := List.mem_range.mp hi; omega⟩
    · rintro ρ μ ⟨x5, x6, rfl, rfl⟩
      simp -dsimp (disch := omega) only [ev, ofS_inj, String.reduceEq, Int.reduceNeg, decide_true, decide_false, Bool.not_true, Bool.not_false, Bool.not_eq_true, true_or, or_true, or_false, false_or, true_and, and_true, and_false, false_and, or_self, and_self]
      refine one_left_ok hh (by omega) (by decide) fun x => ?_
      simp -dsimp (disch := omega) only [ev, ofS_inj, String.reduceEq, Int.reduceNeg, decide_true, decide_false, Bool.not_true, Bool.not_false, Bool.not_eq_true, true_or, or_true, or_false, false_or, true_and, and_true, and_false, false_and, or_self, and_self]
      exact ⟨_, _, _, _, _, x, _, rfl, rfl⟩
    · exact ⟨_, _, rfl, rfl⟩
  · rintro ρ μ ⟨x2, x3, x4, x5, x6, x, R, rfl, rfl⟩
    simp -dsimp (disch := omega) only [ev, ofS_inj, String.reduceEq, Int.reduceNeg, decide_true, decide_false, Bool.not_true, Bool.not_false, Bool.not_eq_true, true_or, or_true, or_false, false_or, true_and, and_true, and_false, false_and, or_self, and_self]
theorem ev_k50 (ns : List Int) (h : ns.length ≤ 63) : ∃ μ, callP U G 40 91 [.src ns] [] = some (.ok (.v (.bl true)) μ) := by
  obtain ⟨rv, μ, e, rfl⟩ := (law_k50_ok h).ok
  exact ⟨μ, e⟩
end J
namespace Q
open PySem L2 PySem.Spec PyProof.Rows J
def top (i : Nat) : Stmt := PySem.Challenge.pw_dueworth_k50_deeds_cut.main.body.getD i (.Pass ⟨0, 0, 0, 0⟩)
def d_cut : DS := ⟨87, "cut", ["house", "d"], ["house", "d"], defArgs (top 1), defBody (top 1), defScope (top 1), f_cut⟩
def d_l_deal : DS := ⟨5, "_law_deal", ["_law_script", "_law_base", "_law_some", "_law_one", "_law_number"], ["_law_script", "_law_base"], defArgs (top 3), defBody (top 3), defScope (top 3), f_l_deal⟩
def d_l_draw : DS := ⟨6, "_law_draw", ["_law_deal_here", "_law_many", "_law_number", "_law_one", "_law_other"], ["_law_deal_here", "_law_many"], defArgs (top 4), defBody (top 4), defScope (top 4), f_l_draw⟩
def d_l_low : DS := ⟨8, "_law_low", ["_law_top", "_law_bottom", "_law_one", "_law_other"], ["_law_top", "_law_bottom"], defArgs (top 5), defBody (top 5), defScope (top 5), f_l_low⟩
def d_l_words : DS := ⟨7, "_law_words", ["_law_deal_here", "_law_many", "_law_letters", "_law_taken", "_law_core", "_law_k", "_law_at", "_law_turn", "_law_near", "_law_found", "_law_name", "_law_j"], ["_law_deal_here", "_law_many"], defArgs (top 6), defBody (top 6), defScope (top 6), f_l_words⟩
def d_l_cost : DS := ⟨9, "_law_cost", ["_law_deal_here", "_law_form"], ["_law_deal_here"], defArgs (top 7), defBody (top 7), defScope (top 7), f_l_cost⟩
def d_l_leaf : DS := ⟨10, "_law_leaf", ["_law_deal_here", "_law_jars", "_law_form", "_law_many"], ["_law_deal_here", "_law_jars"], defArgs (top 8), defBody (top 8), defScope (top 8), f_l_leaf⟩
def d_l_body : DS := ⟨11, "_law_body", ["_law_deal_here", "_law_jars", "_law_left", "_law_down", "_law_form", "_law_one", "_law_other", "_law_many"], ["_law_deal_here", "_law_jars", "_law_left", "_law_down"], defArgs (top 9), defBody (top 9), defScope (top 9), f_l_body⟩
def d_l_pass_count : DS := ⟨47, "_law_pass_count", ["_law_body_here"], ["_law_body_here"], defArgs (top 10), defBody (top 10), defScope (top 10), f_l_pass_count⟩
def d_l_round_count : DS := ⟨48, "_law_round_count", ["_law_body_here"], ["_law_body_here"], defArgs (top 11), defBody (top 11), defScope (top 11), f_l_round_count⟩
def d_l_deed_body : DS := ⟨49, "_law_deed_body", ["_law_deal_here", "_law_jars", "_law_size", "_law_bound", "_law_body_here"], ["_law_deal_here", "_law_jars", "_law_size", "_law_bound"], defArgs (top 12), defBody (top 12), defScope (top 12), f_l_deed_body⟩
def d_l_some_house : DS := ⟨88, "_law_some_house", ["_law_deal_here", "_law_words_here", "_law_jars", "_law_many", "_law_bodies", "_law_d", "_law_first"], ["_law_deal_here"], defArgs (top 13), defBody (top 13), defScope (top 13), f_l_some_house⟩
def d_l_due : DS := ⟨89, "_law_due", ["_law_house", "_law_d", "_law_k", "_law_deed"], ["_law_house", "_law_d"], defArgs (top 14), defBody (top 14), defScope (top 14), f_l_due⟩
def d_l_one_left : DS := ⟨90, "_law_one_left", ["_law_deal_here", "_law_house", "_law_d", "_law_found"], ["_law_deal_here", "_law_house"], defArgs (top 15), defBody (top 15), defScope (top 15), f_l_one_left⟩
def d_law : DS := ⟨91, "law", ["_law_script", "_law_deal_here", "_law_k", "_law_house", "_law_kept", "_law_turn", "_law_d"], ["_law_script"], defArgs (top 16), defBody (top 16), defScope (top 16), f_law_k50⟩
def pg : Pg := ⟨[d_cut, d_l_deal, d_l_draw, d_l_low, d_l_words, d_l_cost, d_l_leaf, d_l_body, d_l_pass_count, d_l_round_count, d_l_deed_body, d_l_some_house, d_l_due, d_l_one_left, d_law], [], ["enumerate", "len", "list", "max", "range", "repr", "reversed", "tuple"]⟩
theorem binds : allB pg.Ds := ⟨fun _ _ _ _ _ _ us hl => match us, hl with | [_, _], _ => rfl, fun _ _ _ _ _ _ us hl => match us, hl with | [_, _], _ => rfl, fun _ _ _ _ _ _ us hl => match us, hl with | [_, _], _ => rfl, fun _ _ _ _ _ _ us hl => match us, hl with | [_, _], _ => rfl, fun _ _ _ _ _ _ us hl => match us, hl with | [_, _], _ => rfl, fun _ _ _ _ _ _ us hl => match us, hl with | [_], _ => rfl, fun _ _ _ _ _ _ us hl => match us, hl with | [_, _], _ => rfl, fun _ _ _ _ _ _ us hl => match us, hl with | [_, _, _, _], _ => rfl, fun _ _ _ _ _ _ us hl => match us, hl with | [_], _ => rfl, fun _ _ _ _ _ _ us hl => match us, hl with | [_], _ => rfl, fun _ _ _ _ _ _ us hl => match us, hl with | [_, _, _, _], _ => rfl, fun _ _ _ _ _ _ us hl => match us, hl with | [_], _ => rfl, fun _ _ _ _ _ _ us hl => match us, hl with | [_, _], _ => rfl, fun _ _ _ _ _ _ us hl => match us, hl with | [_, _], _ => rfl, fun _ _ _ _ _ _ us hl => match us, hl with | [_], _ => rfl, trivial⟩
theorem okAll : pg.Ds.all (pg.okD 60) = true := by decide +kernel
theorem hasU : allU U pg.Ds := ⟨u_cut, u_l_deal, u_l_draw, u_l_low, u_l_words, u_l_cost, u_l_leaf, u_l_body, u_l_pass_count, u_l_round_count, u_l_deed_body, u_l_some_house, u_l_due, u_l_one_left, u_law_k50, trivial⟩
theorem hasG : allG G pg.cs := trivial

def theLaw (ns : List Int) (h : ns.length ≤ 63) : Says U G 40 91 ns := ev_k50 ns h
abbrev lawRow : PySem.W.OpenRow := PySem.W.OpenLaw.row PySem.Challenge.rw_dueworth_k50_deeds_cut
abbrev theHook : PySem.W.Hook := He.hookX 6 pg.fa pg.fnD [] [] pg.ex
def seen (s : PySem.W.SharedT) : He.AlX := He.obsX 6 pg.fa pg.fnD [] [] pg.ex (HandSHeadRun.getT s)
theorem seen_eq (s : PySem.W.SharedT) : seen s = theHook.obs s.abs := He.obsX_eq (HandSHeadRun.getT_eq s)
def topNames : List PySem.Str := ["cut", "_law_deal", "_law_draw", "_law_low", "_law_words", "_law_cost", "_law_leaf", "_law_body", "_law_pass_count", "_law_round_count", "_law_deed_body", "_law_some_house", "_law_due", "_law_one_left"]
theorem topRun (w : World) : HandSHeadRun.RunEq lawRow (PySem.W.view lawRow.prog [16]) theHook seen 560 topNames w := by
  intro os
  kernel_rfl
end Q
open PySem PySem.W PySem.Calls PyProof.Rows
theorem PySem.Challenge.cw_dueworth_k50_deeds_cut_holds : PySem.Challenge.rw_dueworth_k50_deeds_cut.Holds := by
  w_on; o_law
  refine HandSHeadRun.head_any (r := OpenLaw.row PySem.Challenge.rw_dueworth_k50_deeds_cut) (q := view (OpenLaw.row PySem.Challenge.rw_dueworth_k50_deeds_cut).prog [16]) (H := Q.theHook) (ob := Q.seen) (M := 560) (loose := Q.topNames)
    (d := HandSHeadRun.topDef (OpenLaw.row PySem.Challenge.rw_dueworth_k50_deeds_cut).prog 16) (kwd := []) Q.seen_eq
    (by kernel_rfl) (fun s => by kernel_rfl) Q.topRun (by kernel_rfl) (by kernel_rfl) (by kernel_rfl) (by rfl) (by first | assumption | decide +kernel) (by decide +kernel) ⟨rfl, rfl, rfl, rfl, rfl, by decide +kernel⟩ ?hw ?hc
  case hw => w_witness2
  case hc =>
    refine J.walk_G (l := PySem.Challenge.rw_dueworth_k50_deeds_cut) (n := 63) (k := 40) (x := "_law_script") (CX := L2.CX0) rfl (by decide) (by kernel_rfl) ⟨rfl, by decide, by decide⟩ ?F (fun _ _ _ _ z => z)
    intro w mg fa h Y G hmg0
    obtain ⟨K, KX, c⟩ := Y
    have hmg : mg ("law" : PySem.Str) = some (.ref fa) := by
      have e : (HandSHeadRun.topDef (OpenLaw.row PySem.Challenge.rw_dueworth_k50_deeds_cut).prog 16).name = ("law" : PySem.Str) := by kernel_rfl
      rw [← e]
      exact hmg0
    exact J.law_F (p := Q.pg) (U := J.U) (g := J.G) (n := 60) (i := 14) (d := Q.d_law) (P := (PySem.Challenge.rw_dueworth_k50_deeds_cut).prog) KX G c Q.okAll Q.hasU Q.hasG Q.binds rfl rfl hmg Q.theLaw
