import PyProof.Rows.All
import Wide.All
import OpenK.AllK
import Wide.FinOn
import PySem.Challenge.RW_dueworth_k04_less_and_whole
import HandS.ForMost
import HandS.ForExc
import HandS.Wide
import HandS.Rev
import HandS.Conv
import PyProof.ListStr
import HandS.Deep
import HandS.TupAny
import HandS.TupMul
import HandS.Flow
import HandS.IsInst
import HandS.Style
import HandS.CallSlots
import HandS.Replace
import HandS.Zip
import HandS.Small
import HandS.WordsExc
import HandS.Defaults
import HandS.Head0
import HandS.Head1
import HandS.Head2
import HandS.HeadEnd
import HandS.HeadHook1
import HandS.HeadHook2
import HandS.HeadHook3
import HandS.HeadHook4
set_option Elab.async false
set_option linter.all false
set_option maxRecDepth 100000
set_option maxHeartbeats 0
/-! a small evaluator over trees of data, in plain Lean (no program in sight). -/
namespace J
open PySem L2

/-- data: lists and tuples as trees; ref n: the n-th cell of the store (a list or dict that is shared and changed) -/
inductive D where
  | non | bl (b : Bool) | int (i : Int) | str (x : Str) | tup (ds : List D) | lst (ds : List D) | ref (n : Nat)
  /-- the script -/
  | src (ns : List Int)

inductive Cell where
  | dead | lst (ds : List D) | dct (kvs : List (Key × D)) | ins (C : Str) (fs : List (Str × D))
abbrev Sto := List Cell

/-- an exception: its class by name, its fields -/
structure Ex where
  cls : Str
  fs : List (Str × D)
inductive Res (α : Type) where
  | ok (a : α) (μ : Sto)
  | exc (x : Ex) (μ : Sto)
abbrev M (α : Type) := Sto → Option (Res α)
@[inline] def M.pure {α : Type} (a : α) : M α := fun μ => some (.ok a μ)
@[inline] def M.bind {α β : Type} (m : M α) (f : α → M β) : M β := fun μ => match m μ with
  | none => none
  | some (.exc x μ1) => some (.exc x μ1)
  | some (.ok a μ1) => f a μ1
instance : Monad M where
  pure := M.pure
  bind := M.bind
def stuck {α : Type} : M α := fun _ => none
/-- no exception comes out of it -/
def noex {α : Type} (m : M α) : M α := fun μ => match m μ with
  | some (.ok a μ1) => some (.ok a μ1)
  | _ => none
def oM {α : Type} : Option α → M α
  | none => stuck
  | some a => M.pure a

/-- what an expression hands back: a value; a new list; the list that the slot i owns -/
inductive RV where
  | v (d : D) | fr (ds : List D) | bo (i : Nat) (ds : List D)
def RV.d : RV → D
  | .v d => d | .fr ds => .lst ds | .bo _ ds => .lst ds
def RV.hold : RV → RV
  | .fr ds => .v (.lst ds) | y => y
def RV.val : RV → Option D
  | .v d => some d | .fr ds => some (.lst ds) | .bo _ _ => none
inductive Slot where
  | none | val (d : D) | own (ds : List D)
abbrev Env := List Slot

/-! ### the text -/
inductive Lit where
  | non | bl (b : Bool) | int (i : Int) | str (x : Str)
inductive T where
  | nm (i : Nat) | tp (ts : List T)
inductive BOp where
  | add | sub | mul | fdiv | mod | pow
  deriving DecidableEq
inductive COp where
  | eq | ne | lt | le | gt | ge | isin | notin | is | isnot
  deriving DecidableEq
/-- built-in functions -/
inductive Blt where
  | len | max2 | min2 | maxL | minL | sum | abs | int | str | list | tuple | all | any
  | isBool | isInt | isStr | isTuple | isList
  deriving DecidableEq
/-- methods -/
inductive Mth where
  | join | split | index | sindex | get | pop | popAt
  deriving DecidableEq
inductive E where
  | lit (l : Lit)
  | var (i : Nat)
  | glob (g : Nat)
  | bin (o : BOp) (a b : E)
  | neg (a : E)
  | not (a : E)
  | cmp (o : COp) (a b : E)
  | chain (o p : COp) (a b c : E)
  | and (a b : E)
  | or (a b : E)
  | ite (c a b : E)
  | tup (es : List E)
  | lst (es : List E)
  /-- of the text nothing: a new list becomes a cell -/
  | cell (e : E)
  | dct (ks : List Key) (vs : List E)
  | idx (a i : E)
  | slc (a : E) (lo hi : Option E)
  | rev (a : E)
  | comp (own : List Nat) (t : T) (it : E) (c : Option E) (e : E)
  | call (f : Nat) (es : List E)
  | blt (b : Blt) (es : List E)
  | meth (m : Mth) (o : E) (es : List E)
  /-- what a loop walks (nowhere else) -/
  | irng (a : E)
  | irng2 (a b : E)
  | ienum (a : E)
  | izip (a b : E)
  | izip3 (a b c : E)
  | irev (a : E)
inductive S where
  | asg (t : T) (e : E)
  /-- x = e, a new list that the slot owns from now on -/
  | own (i : Nat) (e : E)
  | par2 (i j : Nat) (a b : E)
  | par3 (i j k : Nat) (a b c : E)
  /-- of the text nothing: the list that the slot owns may be shared, and is not changed from now on -/
  | share (i : Nat)
  | put (o i e : E)
  | app (o e : E)
  | ext (o e : E)
  | ret (e : E)
  | ifs (c : E) (a b : List S)
  | fors (t : T) (it : E) (b : List S)
  | whl (c : E) (b : List S)
  | expr (e : E)
  | pass
  | cont
structure Fn where
  np : Nat
  ns : Nat
  body : List S

/-! ### data as the comparison has it -/
mutual
def D.py : D → PyData
  | .non => .none | .bl b => .bool b | .int i => .int i | .str x => .str x
  | .tup ds => .tuple (pys ds) | .lst ds => .list (pys ds) | .ref _ => .dict [] | .src _ => .dict []
def pys : List D → List PyData
  | [] => []
  | d :: ds => d.py :: pys ds
end
def shp (d : D) : Bool := SeqAt.shaped d.py
def eqD (a b : D) : Bool := PyData.eqv a.py b.py
def litD : Lit → D
  | .non => .non | .bl b => .bl b | .int i => .int i | .str x => .str x
def strD (c : Nat) : D := .str ⟨#[c]⟩
def fitL (n : Nat) : Bool := decide (n ≤ sizeLine)
def isFlat : D → Bool
  | .non => true | .bl _ => true | .int _ => true | .str _ => true | _ => false
def dV : D → V
  | .non => .non | .bl b => .bl b | .int i => .int i | .str x => .str x | _ => .ref 0

/-! ### operations -/
def binD : BOp → D → D → Option RV
  | .add, .int a, .int b => some (.v (.int (a + b)))
  | .add, .str a, .str b => if a.length + b.length ≤ sizeLine then some (.v (.str (a ++ b))) else none
  | .add, .lst a, .lst b => if a.length + b.length ≤ sizeLine then some (.fr (a ++ b)) else none
  | .add, .tup a, .tup b => if a.length + b.length ≤ sizeLine then some (.v (.tup (a ++ b))) else none
  | .sub, .int a, .int b => some (.v (.int (a - b)))
  | .mul, .int a, .int b => if a.natAbs.log2 + b.natAbs.log2 < 1000000 then some (.v (.int (a * b))) else none
  | .mul, .lst a, .int k => if 0 ≤ k ∧ k ≤ 1000 ∧ a.length ≤ 1000 then some (.fr (List.replicate k.toNat a).flatten) else none
  | .mul, .tup a, .int k => if a ≠ [] ∧ 2 ≤ k ∧ k ≤ 1000 ∧ a.length ≤ 1000 then some (.v (.tup (List.replicate k.toNat a).flatten)) else none
  | .fdiv, .int a, .int b => if 0 < b ∧ b.natAbs.log2 < 9000 then some (.v (.int (a / b))) else none
  | .mod, .int a, .int b => if 0 < b then some (.v (.int (a % b))) else none
  | .pow, .int a, .int b => if 0 ≤ b ∧ b ≤ 1000000 ∧ a.natAbs < 2 ^ 64 then some (.v (.int (a ^ b.toNat))) else none
  | _, _, _ => none
def itemsD : D → Option (List D)
  | .lst ds => some ds
  | .tup ds => some ds
  | _ => none
def listD : D → Option (List D)
  | .lst ds => some ds
  | _ => none
/-- two lists, or two tuples -/
def twoD : D → D → Option (List D × List D)
  | .lst ds, .lst es => some (ds, es)
  | .tup ds, .tup es => some (ds, es)
  | _, _ => none
def inD (a b : D) : Option Bool := match b with
  | .str y => (match a with
    | .str x => some (!(Builtin.Str.occurrences y x 0 y.length 1).isEmpty)
    | _ => none)
  | .lst ds => if isFlat a ∧ ds.all isFlat then some (ds.any fun z => eqD z a) else if shp a ∧ shp (.lst ds) then some (ds.any fun z => eqD z a) else none
  | .tup ds => if isFlat a ∧ ds.all isFlat then some (ds.any fun z => eqD z a) else none
  | _ => none
def cmpD : COp → D → D → Option Bool
  | .eq, a, b => if shp a ∧ shp b then some (eqD a b) else none
  | .ne, a, b => if shp a ∧ shp b then some (!eqD a b) else none
  | .lt, .int a, .int b => some (decide (a < b))
  | .le, .int a, .int b => some (decide (a ≤ b))
  | .gt, .int a, .int b => some (decide (b < a))
  | .ge, .int a, .int b => some (decide (b ≤ a))
  | .isin, a, b => inD a b
  | .notin, a, b => (inD a b).map (!·)
  | .is, a, .non => some (match a with | .non => true | _ => false)
  | .isnot, a, .non => some (match a with | .non => false | _ => true)
  | _, _, _ => none
def truD : D → Option Bool
  | .non => some false
  | .bl b => some b
  | .int i => some (i != 0)
  | .str x => if x.length ≤ sizeLine then some ((x.length : Int) != 0) else none
  | .tup ds => some (!ds.isEmpty)
  | .lst ds => some (!ds.isEmpty)
  | .ref _ => none
  | .src _ => none
def idxD (a i : D) : Option D := match i with
  | .int k => (match a with
    | .lst ds => atI ds k
    | .tup ds => atI ds k
    | .str x => if x.length ≤ sizeLine then (atI x.cps.toList k).map strD else none
    | _ => none)
  | _ => none
def cutD {α : Type} (xs : List α) (lo hi : Option Int) : List α := (xs.drop (HT.sIx xs.length 0 lo)).take (HT.sIx xs.length xs.length hi - HT.sIx xs.length 0 lo)
def slcD (a : D) (lo hi : Option Int) : Option RV := match a with
  | .lst ds => some (.fr (cutD ds lo hi))
  | .tup ds => some (.v (.tup (cutD ds lo hi)))
  | .src ns => some (.fr (cutD (ns.map .int) lo hi))
  | .str x => if x.length ≤ sizeLine then some (.v (.str (cutS x lo hi))) else none
  | _ => none
def intsD : List D → Option (List Int)
  | [] => some []
  | .int i :: r => (intsD r).map (i :: ·)
  | _ :: _ => none
def blsD : List D → Option (List Bool)
  | [] => some []
  | .bl i :: r => (blsD r).map (i :: ·)
  | _ :: _ => none
def strsD : List D → Option (List Str)
  | [] => some []
  | .str i :: r => (strsD r).map (i :: ·)
  | _ :: _ => none
def maxI : List Int → Int
  | [] => 0
  | [a] => a
  | a :: r => max a (maxI r)
def minI : List Int → Int
  | [] => 0
  | [a] => a
  | a :: r => min a (minI r)
def isBoolD : D → Bool
  | .bl _ => true | _ => false
def isIntD : D → Bool
  | .bl _ => true | .int _ => true | _ => false
def isStrD : D → Bool
  | .str _ => true | _ => false
def isTupleD : D → Bool
  | .tup _ => true | _ => false
def isListD : D → Bool
  | .lst _ => true | .src _ => true | _ => false
def isiD (d : D) (b : Bool) : Option RV := match d with
  | .ref _ => none
  | _ => some (.v (.bl b))
def bltD : Blt → List D → Option RV
  | .len, [.lst ds] => some (.v (.int ds.length))
  | .len, [.tup ds] => some (.v (.int ds.length))
  | .len, [.src ds] => some (.v (.int ds.length))
  | .len, [.str x] => if x.length ≤ sizeLine then some (.v (.int x.length)) else none
  | .max2, [.int a, .int b] => some (.v (.int (if b > a then b else a)))
  | .min2, [.int a, .int b] => some (.v (.int (if b < a then b else a)))
  | .maxL, [.lst ds] => (intsD ds).bind fun ns => if 0 < ns.length then some (.v (.int (maxI ns))) else none
  | .minL, [.lst ds] => (intsD ds).bind fun ns => if 0 < ns.length then some (.v (.int (minI ns))) else none
  | .sum, [.lst ds] => (intsD ds).map fun ns => .v (.int ns.sum)
  | .abs, [.int a] => some (.v (.int (if a < 0 then -a else a)))
  | .int, [.int a] => some (.v (.int a))
  | .int, [.bl b] => some (.v (.int (if b then 1 else 0)))
  | .int, [.str x] => if x.length ≤ 640 then (PySem.intText? x).map fun n => .v (.int n) else none
  | .str, [.int a] => if a.natAbs.log2 < 1920 then some (.v (.str (toString a))) else none
  | .list, [.lst ds] => some (.fr ds)
  | .list, [.tup ds] => some (.fr ds)
  | .list, [.str x] => if x.length ≤ sizeLine then some (.fr (x.cps.toList.map strD)) else none
  | .tuple, [.lst ds] => some (.v (.tup ds))
  | .tuple, [.tup ds] => some (.v (.tup ds))
  | .all, [.lst ds] => (blsD ds).map fun bs => .v (.bl (bs.all id))
  | .any, [.lst ds] => (blsD ds).map fun bs => .v (.bl (bs.any id))
  | .isBool, [d] => isiD d (isBoolD d)
  | .isInt, [d] => isiD d (isIntD d)
  | .isStr, [d] => isiD d (isStrD d)
  | .isTuple, [d] => isiD d (isTupleD d)
  | .isList, [d] => isiD d (isListD d)
  | _, _ => none

/-! ### the store -/
def getC (μ : Sto) (n : Nat) : Option Cell := μ[n]?
def setC (n : Nat) (c : Cell) : M Unit := fun μ => some (.ok () (μ.set n c))
def newC (c : Cell) : M Nat := fun μ => some (.ok μ.length (μ ++ [c]))
def getM : M Sto := fun μ => some (.ok μ μ)
def keyD : D → Option Key
  | .int i => some (.inl i)
  | .str x => some (.inr x)
  | _ => none
def findK (kvs : List (Key × D)) (k : Key) : Option D := (kvs.find? fun p => decide (p.1 = k)).map (·.2)
def setK (kvs : List (Key × D)) (k : Key) (d : D) : List (Key × D) :=
  if (kvs.any fun p => decide (p.1 = k)) = true then kvs.map (fun p => if p.1 = k then (p.1, d) else p) else kvs ++ [(k, d)]

/-! ### targets -/
mutual
def bindT : T → D → Env → Option Env
  | .nm i, d, ρ => if i < ρ.length then some (ρ.set i (.val d)) else none
  | .tp ts, d, ρ => (match d with
    | .tup ds => bindTs ts ds ρ
    | _ => none)
def bindTs : List T → List D → Env → Option Env
  | [], [], ρ => some ρ
  | t :: ts, d :: ds, ρ => (bindT t d ρ).bind fun ρ1 => bindTs ts ds ρ1
  | _, _, _ => none
end
def wipeS (ρ : Env) : List Nat → Env
  | [] => ρ
  | v :: vs => (wipeS ρ vs).set v .none

/-! ### expressions -/
abbrev Calls := Nat → List D → M RV
def mapItems (f : D → M (Option D)) : List D → M (List D)
  | [] => M.pure []
  | d :: ds => M.bind (f d) fun o => M.bind (mapItems f ds) fun r => M.pure (match o with | none => r | some x => x :: r)
def enumD (n : Nat) : List D → List D
  | [] => []
  | d :: ds => .tup [.int n, d] :: enumD (n + 1) ds
def zipD : List D → List D → List D
  | a :: as, b :: bs => .tup [a, b] :: zipD as bs
  | _, _ => []
def zip3D : List D → List D → List D → List D
  | a :: as, b :: bs, c :: cs => .tup [a, b, c] :: zip3D as bs cs
  | _, _, _ => []
def walkD : D → Option (List D)
  | .lst ds => some ds
  | .tup ds => some ds
  | .str x => some (x.cps.toList.map strD)
  | _ => none
def methD : Mth → D → List D → Option RV
  | .join, .str a, [d] => (itemsD d).bind fun ds => (strsD ds).bind fun ys => if (ys.map (·.length)).sum + ys.length * a.length ≤ 16777216 then some (.v (.str (Txt.join a ys))) else none
  | .split, .str a, [.str b] => if b.length ≠ 0 ∧ a.length + 2 ≤ sizeLine then some (.fr ((Txt.split a b).map .str)) else none
  | .sindex, .str a, [.str b] => (match Builtin.Str.occurrences a b 0 a.length 1 with
    | i :: _ => some (.v (.int i))
    | [] => none)
  | .index, .lst ds, [d] => if isFlat d ∧ ds.all isFlat then (ds.findIdx? fun z => eqD z d).map fun j => .v (.int j) else none
  | _, _, _ => none
def notL : D → Bool
  | .lst _ => false
  | _ => true
/-- the method is the object's -/
def chkM (m : Mth) (o : D) : M Unit := fun μ => match m, o with
  | .join, .str _ => some (.ok () μ)
  | .split, .str _ => some (.ok () μ)
  | .sindex, .str _ => some (.ok () μ)
  | .index, .lst _ => some (.ok () μ)
  | .get, .ref n => (match μ[n]? with
    | some (.dct _) => some (.ok () μ)
    | _ => none)
  | .pop, .ref n => (match μ[n]? with
    | some (.lst _) => some (.ok () μ)
    | _ => none)
  | .popAt, .ref n => (match μ[n]? with
    | some (.lst _) => some (.ok () μ)
    | _ => none)
  | _, _ => none
/-- what hangs on the store -/
def methM (m : Mth) (o : D) (ds : List D) : M RV := fun μ => match o with
  | .ref n => (match μ[n]?, m, ds with
    | some (.lst xs), .pop, [] => (match xs.getLast? with
      | some x => some (.ok (.v x) (μ.set n (.lst xs.dropLast)))
      | none => none)
    | some (.lst xs), .popAt, [.int i] => if 0 ≤ i ∧ i < 2 ^ 62 then (match xs[i.toNat]? with
      | some x => some (.ok (.v x) (μ.set n (.lst (xs.eraseIdx i.toNat))))
      | none => none) else none
    | some (.dct kvs), .get, [k, d] => (keyD k).bind fun k => if notL d = true then some (.ok (.v ((findK kvs k).getD d)) μ) else none
    | _, _, _ => none)
  | _ => oM (methD m o ds) μ
def idxM (a i : D) : M RV := fun μ => match a with
  | .ref n => (match μ[n]? with
    | some (.dct kvs) => (keyD i).bind fun k => (findK kvs k).map fun d => .ok (.v d) μ
    | some (.lst ds) => (idxD (.lst ds) i).map fun d => .ok (.v d) μ
    | _ => none)
  | _ => (idxD a i).map fun d => .ok (.v d) μ
def bltM (b : Blt) (ds : List D) : M RV := fun μ => match b, ds with
  | .len, [.ref n] => (match μ[n]? with
    | some (.lst xs) => some (.ok (.v (.int xs.length)) μ)
    | _ => none)
  | _, _ => oM (bltD b ds) μ
def needV (r : RV) : M D := oM r.val
def intO : D → Option Int
  | .int i => some i
  | _ => none

section
variable (C : Calls) (g : List D)
mutual
def evalE : E → Env → M RV
  | .lit l, _ => M.pure (.v (litD l))
  | .var i, ρ => (match ρ[i]? with
    | some (.val d) => M.pure (.v d)
    | some (.own ds) => M.pure (.bo i ds)
    | _ => stuck)
  | .glob n, _ => oM ((g[n]?).map .v)
  | .bin o a b, ρ => M.bind (evalE a ρ) fun x => M.bind (evalE b ρ) fun y => oM (binD o x.d y.d)
  | .neg a, ρ => M.bind (evalE a ρ) fun x => oM ((intO x.d).map fun i => .v (.int (-i)))
  | .not a, ρ => M.bind (evalE a ρ) fun x => M.bind (oM (truD x.d)) fun b => M.pure (.v (.bl (!b)))
  | .cmp o a b, ρ => M.bind (evalE a ρ) fun x => M.bind (evalE b ρ) fun y => oM ((cmpD o x.d y.d).map fun b => .v (.bl b))
  | .chain o p a b c, ρ => M.bind (evalE a ρ) fun x => M.bind (evalE b ρ) fun y => M.bind (oM (cmpD o x.d y.d)) fun k =>
      if k then M.bind (evalE c ρ) fun z => oM ((cmpD p y.d z.d).map fun b => .v (.bl b)) else M.pure (.v (.bl false))
  | .and a b, ρ => M.bind (evalE a ρ) fun x => M.bind (oM (truD x.d)) fun k => if k then evalE b ρ else M.pure x.hold
  | .or a b, ρ => M.bind (evalE a ρ) fun x => M.bind (oM (truD x.d)) fun k => if k then M.pure x.hold else evalE b ρ
  | .ite c a b, ρ => M.bind (evalE c ρ) fun x => M.bind (oM (truD x.d)) fun k => if k then evalE a ρ else evalE b ρ
  | .tup es, ρ => M.bind (evalEs es ρ) fun ds => if ds.length ≤ sizeLine then M.pure (.v (.tup ds)) else stuck
  | .lst es, ρ => M.bind (evalEs es ρ) fun ds => if ds.length ≤ sizeLine then M.pure (.fr ds) else stuck
  | .cell e, ρ => M.bind (evalE e ρ) fun x => match x with
    | .fr ds => M.bind (newC (.lst ds)) fun n => M.pure (.v (.ref n))
    | _ => stuck
  | .dct ks es, ρ => M.bind (evalEs es ρ) fun ds => if ds.length = ks.length ∧ ks.length ≤ 15 ∧ ks.Nodup then M.bind (newC (.dct (ks.zip ds))) fun n => M.pure (.v (.ref n)) else stuck
  | .idx a i, ρ => M.bind (evalE a ρ) fun x => M.bind (evalE i ρ) fun y => idxM x.d y.d
  | .slc a lo hi, ρ => M.bind (evalE a ρ) fun x => M.bind (evalO lo ρ) fun l => M.bind (evalO hi ρ) fun h => oM (slcD x.d l h)
  | .rev a, ρ => M.bind (evalE a ρ) fun x => match x.d with
    | .lst ds => M.pure (.fr ds.reverse)
    | _ => stuck
  | .comp own t it c e, ρ => M.bind (evalE it ρ) fun x => match x with
    | .bo _ _ => stuck
    | _ => M.bind (oM (walkD x.d)) fun ds => M.bind (noex (mapItems (fun d => match bindT t d (wipeS ρ own) with
        | none => stuck
        | some ρ1 => M.bind (evalC c ρ1) fun k => if k then M.bind (evalE e ρ1) fun y => M.bind (needV y) fun d => M.pure (some d) else M.pure none) ds)) fun r =>
          if r.length ≤ sizeLine ∧ ds.length ≤ sizeLine then M.pure (.fr r) else stuck
  | .call f es, ρ => M.bind (evalEs es ρ) fun ds => match ds with
    | [] => noex (C f [])
    | _ => C f ds
  | .blt b es, ρ => M.bind (evalBs es ρ) fun ds => bltM b ds
  | .meth m o es, ρ => M.bind (evalE o ρ) fun x => M.bind (chkM m x.d) fun _ => M.bind (evalBs es ρ) fun ds => methM m x.d ds
  | .irng a, ρ => M.bind (evalE a ρ) fun x => M.bind (oM (intO x.d)) fun n => if -(2 ^ 62) ≤ n ∧ n < 2 ^ 62 then M.pure (.v (.lst ((List.range n.toNat).map fun (i : Nat) => .int (0 + (i : Int))))) else stuck
  | .irng2 a b, ρ => M.bind (evalE a ρ) fun x => M.bind (evalE b ρ) fun y => M.bind (oM (intO x.d)) fun m => M.bind (oM (intO y.d)) fun n =>
      if -(2 ^ 62) ≤ m ∧ m < 2 ^ 62 ∧ -(2 ^ 62) ≤ n ∧ n < 2 ^ 62 then M.pure (.v (.lst ((List.range (n - m).toNat).map fun (i : Nat) => .int (m + (i : Int))))) else stuck
  | .ienum a, ρ => M.bind (evalE a ρ) fun x => M.bind (needV x) fun d => M.bind (oM (listD d)) fun ds => M.pure (.v (.lst (enumD 0 ds)))
  | .izip a b, ρ => M.bind (evalE a ρ) fun x => M.bind (needV x) fun d => M.bind (evalE b ρ) fun y => M.bind (needV y) fun d' => M.bind (oM (twoD d d')) fun p => M.pure (.v (.lst (zipD p.1 p.2)))
  | .izip3 a b c, ρ => M.bind (evalE a ρ) fun x => M.bind (needV x) fun d => M.bind (evalE b ρ) fun y => M.bind (needV y) fun d' => M.bind (evalE c ρ) fun z => M.bind (needV z) fun d'' =>
      M.bind (oM (itemsD d)) fun ds => M.bind (oM (itemsD d')) fun es => M.bind (oM (itemsD d'')) fun fs => M.pure (.v (.lst (zip3D ds es fs)))
  | .irev a, ρ => M.bind (evalE a ρ) fun x => M.bind (needV x) fun d => M.bind (oM (itemsD d)) fun ds => M.pure (.v (.lst ds.reverse))
/-- values that are kept -/
def evalEs : List E → Env → M (List D)
  | [], _ => M.pure []
  | e :: es, ρ => M.bind (evalE e ρ) fun x => M.bind (needV x) fun d => M.bind (evalEs es ρ) fun ds => M.pure (d :: ds)
/-- values that are looked at -/
def evalBs : List E → Env → M (List D)
  | [], _ => M.pure []
  | e :: es, ρ => M.bind (evalE e ρ) fun x => M.bind (evalBs es ρ) fun ds => M.pure (x.d :: ds)
def evalO : Option E → Env → M (Option Int)
  | none, _ => M.pure none
  | some e, ρ => M.bind (evalE e ρ) fun x => M.bind (oM (intO x.d)) fun i => M.pure (some i)
def evalC : Option E → Env → M Bool
  | none, _ => M.pure true
  | some e, ρ => M.bind (evalE e ρ) fun x => oM (truD x.d)
end
/-- truth -/
def evalT (e : E) (ρ : Env) : M Bool := M.bind (evalE C g e ρ) fun x => oM (truD x.d)
end

/-! ### statements -/
/-- how a statement ends: go on, hand back, the loop's next turn, an exception (with the slots as they stand) -/
inductive Flo where
  | nx (ρ : Env) | rt (r : RV) | ct (ρ : Env) | ex (x : Ex) (ρ : Env)
/-- an expression within a statement -/
def stE {α : Type} (ρ : Env) (m : M α) (k : α → M Flo) : M Flo := fun μ => match m μ with
  | none => none
  | some (.exc x μ1) => some (.ok (.ex x ρ) μ1)
  | some (.ok a μ1) => k a μ1
/-- again and again, while the step says so (n turns at most) -/
def loopF {σ β : Type} (step : σ → Option (σ ⊕ β)) : Nat → σ → Option β
  | 0, _ => none
  | n + 1, s => match step s with
    | none => none
    | some (.inl s') => loopF step n s'
    | some (.inr b) => some b
def fuelW : Nat := 1000000000000000000000000000000000000000000000000000000000000
def eachM (f : D → Env → M Flo) : List D → Env → M Flo
  | [], ρ => M.pure (.nx ρ)
  | d :: ds, ρ => M.bind (f d ρ) fun o => match o with
    | .nx ρ1 => eachM f ds ρ1
    | .ct ρ1 => eachM f ds ρ1
    | y => M.pure y
def setD (ds : List D) (i : D) (d : D) : Option (List D) := match i with
  | .int k => (ixN ds.length k).map fun j => ds.set j d
  | _ => none
def extM (ρ : Env) (o : RV) (more : List D) : M Flo := match o with
  | .bo i ds => if ds.length + more.length ≤ sizeLine then M.pure (.nx (ρ.set i (.own (ds ++ more)))) else stuck
  | .v (.ref n) => fun μ => match μ[n]? with
    | some (.lst xs) => if xs.length + more.length ≤ sizeLine then some (.ok (.nx ρ) (μ.set n (.lst (xs ++ more)))) else none
    | _ => none
  | _ => stuck
def putM (ρ : Env) (o : RV) (i d : D) : M Flo := match o with
  | .bo k ds => M.bind (oM (setD ds i d)) fun ds' => M.pure (.nx (ρ.set k (.own ds')))
  | .v (.ref n) => fun μ => match μ[n]? with
    | some (.lst xs) => (setD xs i d).map fun xs' => .ok (.nx ρ) (μ.set n (.lst xs'))
    | some (.dct kvs) => (keyD i).bind fun k => if kvs.length < sizeLine then some (.ok (.nx ρ) (μ.set n (.dct (setK kvs k d)))) else none
    | _ => none
  | _ => stuck
def isLst (o : RV) : M Unit := match o with
  | .bo _ _ => M.pure ()
  | .v (.ref n) => fun μ => match μ[n]? with
    | some (.lst _) => some (.ok () μ)
    | _ => none
  | _ => stuck
def slotO (ρ : Env) (i : Nat) (s : Slot) : Option Env := if i < ρ.length then some (ρ.set i s) else none
def rtV : RV → RV
  | .bo _ ds => .fr ds
  | y => y
section
variable (C : Calls) (g : List D)
/-- a loop's turn -/
def whlStep (c : Env → M Bool) (b : Env → M Flo) (p : Env × Sto) : Option ((Env × Sto) ⊕ Res Flo) := match c p.1 p.2 with
  | none => none
  | some (.exc x μ1) => some (.inr (.ok (.ex x p.1) μ1))
  | some (.ok false μ1) => some (.inr (.ok (.nx p.1) μ1))
  | some (.ok true μ1) => match b p.1 μ1 with
    | none => none
    | some (.exc x μ2) => some (.inr (.exc x μ2))
    | some (.ok (.nx ρ2) μ2) => some (.inl (ρ2, μ2))
    | some (.ok (.ct ρ2) μ2) => some (.inl (ρ2, μ2))
    | some (.ok y μ2) => some (.inr (.ok y μ2))
mutual
def evalS : S → Env → M Flo
  | .asg t e, ρ => stE ρ (evalE C g e ρ) fun x => M.bind (needV x) fun d => M.bind (oM (bindT t d ρ)) fun ρ1 => M.pure (.nx ρ1)
  | .own i e, ρ => stE ρ (evalE C g e ρ) fun x => match x with
    | .fr ds => M.bind (oM (slotO ρ i (.own ds))) fun ρ1 => M.pure (.nx ρ1)
    | _ => stuck
  | .par2 i j a b, ρ => stE ρ (evalEs C g [a, b] ρ) fun ds => match ds with
    | [d, d'] => M.bind (oM (slotO ρ i (.val d))) fun ρ1 => M.bind (oM (slotO ρ1 j (.val d'))) fun ρ2 => M.pure (.nx ρ2)
    | _ => stuck
  | .par3 i j k a b c, ρ => stE ρ (evalEs C g [a, b, c] ρ) fun ds => match ds with
    | [d, d', d''] => M.bind (oM (slotO ρ i (.val d))) fun ρ1 => M.bind (oM (slotO ρ1 j (.val d'))) fun ρ2 => M.bind (oM (slotO ρ2 k (.val d''))) fun ρ3 => M.pure (.nx ρ3)
    | _ => stuck
  | .share i, ρ => (match ρ[i]? with
    | some (.own ds) => M.pure (.nx (ρ.set i (.val (.lst ds))))
    | _ => stuck)
  | .put o i e, ρ => stE ρ (evalE C g e ρ) fun x => M.bind (needV x) fun d => stE ρ (evalE C g o ρ) fun y => stE ρ (evalE C g i ρ) fun z => putM ρ y z.d d
  | .app o e, ρ => stE ρ (evalE C g o ρ) fun y => M.bind (isLst y) fun _ => stE ρ (evalEs C g [e] ρ) fun ds => match ds with
    | [d] => extM ρ y [d]
    | _ => stuck
  | .ext o e, ρ => stE ρ (evalE C g o ρ) fun y => M.bind (isLst y) fun _ => stE ρ (evalEs C g [e] ρ) fun ds => match ds with
    | [.lst es] => extM ρ y es
    | _ => stuck
  | .ret e, ρ => stE ρ (evalE C g e ρ) fun x => M.pure (.rt (rtV x))
  | .ifs c a b, ρ => stE ρ (evalT C g c ρ) fun k => if k then evalSs a ρ else evalSs b ρ
  | .fors t it b, ρ => stE ρ (evalE C g it ρ) fun x => match x with
    | .bo _ _ => stuck
    | _ => M.bind (oM (walkD x.d)) fun ds => eachM (fun d ρ => M.bind (oM (bindT t d ρ)) fun ρ1 => evalSs b ρ1) ds ρ
  | .whl c b, ρ => fun μ => loopF (whlStep (fun ρ => evalT C g c ρ) (fun ρ => evalSs b ρ)) fuelW (ρ, μ)
  | .expr e, ρ => stE ρ (evalE C g e ρ) fun _ => M.pure (.nx ρ)
  | .pass, ρ => M.pure (.nx ρ)
  | .cont, ρ => M.pure (.ct ρ)
def evalSs : List S → Env → M Flo
  | [], ρ => M.pure (.nx ρ)
  | s :: ss, ρ => M.bind (evalS s ρ) fun o => match o with
    | .nx ρ1 => evalSs ss ρ1
    | y => M.pure y
end
end
/-! ### a program: its functions; calls of a depth of at most k -/
def start (F : Fn) (ds : List D) : Env := ds.map .val ++ List.replicate (F.ns - ds.length) .none
def endF : Flo → M RV
  | .nx _ => M.pure (.v .non)
  | .rt r => M.pure r
  | .ct _ => stuck
  | .ex x _ => fun μ => some (.exc x μ)
def callP (P : List Fn) (g : List D) : Nat → Calls
  | 0 => fun _ _ => stuck
  | k + 1 => fun f ds => match P[f]? with
    | none => stuck
    | some F => if ds.length = F.np then M.bind (noex (evalSs (callP P g k) g F.body (start F ds))) endF else stuck
end J
/-! how data lie in the abstract heap; what stays. -/
namespace J
open PySem L2 PySem.Spec PyProof.Rows

abbrev St := L2.St
structure Gh where
  φ : List Addr
  Fz : Addr → Prop

def LsR (G : Gh) (H : Hp) (a : Addr) (vs : List V) : Prop := G.Fz a ∧ H a = some (.lst vs)
theorem LsR.sq {K : PySem.W.Frag} {G : Gh} {H : Hp} {a : Addr} {vs : List V} (h : LsR G H a vs) : SqL K H a vs := .inl (.inl h.2)

/-- a list of the written part -/
def SqK (K : PySem.W.Frag) (a : Addr) (xs : List V) : Prop :=
  ∃ (o : Obj) (its : Array Value) (n : Nat), K.lookup a = some o ∧ o.cls = .type "list" ∧ o.dict = none ∧ o.data = .seq its n ∧ its.size ≤ sizeLine ∧ Vals xs its.toList
mutual
def Rep (K : PySem.W.Frag) (G : Gh) (H : Hp) : D → V → Prop
  | .non, v => v = .non
  | .bl b, v => v = .bl b
  | .int i, v => v = .int i
  | .str x, v => v = .str x
  | .tup ds, v => ∃ a vs, v = .ref a ∧ SqT K H a vs ∧ Reps K G H ds vs
  | .lst ds, v => ∃ a vs, v = .ref a ∧ LsR G H a vs ∧ Reps K G H ds vs
  | .ref n, v => ∃ a, v = .ref a ∧ G.φ[n]? = some a
  | .src ns, v => ∃ a, v = .ref a ∧ ((G.Fz a ∧ Rd H a (.lst (ns.map V.int))) ∨ SqK K a (ns.map V.int))
def Reps (K : PySem.W.Frag) (G : Gh) (H : Hp) : List D → List V → Prop
  | [], vs => vs = []
  | d :: ds, vs => ∃ v r, vs = v :: r ∧ Rep K G H d v ∧ Reps K G H ds r
end

/-- a cell that may be changed stands at b -/
def Lv (G : Gh) (μ : Sto) (b : Addr) : Prop := ∃ (n : Nat) (c : Cell), G.φ[n]? = some b ∧ μ[n]? = some c ∧ c ≠ .dead

/-- what may have become of a heap, seen from a part of the code -/
structure Ext (G : Gh) (μ : Sto) (H : Hp) (G' : Gh) (μ' : Sto) (H' : Hp) : Prop where
  pre : ∀ (n : Nat) (a : Addr), G.φ[n]? = some a → G'.φ[n]? = some a
  new : ∀ (n : Nat) (a : Addr), G'.φ[n]? = some a → G.φ[n]? = some a ∨ H a = none
  fz : ∀ b, G.Fz b → G'.Fz b
  fzn : ∀ b, G'.Fz b → G.Fz b ∨ H b = none ∨ Lv G μ b
  keep : ∀ b o, H b = some o → ¬ Lv G μ b → H' b = some o
  old : ∀ b, H' b = none → H b = none
  lv : ∀ b, Lv G' μ' b → Lv G μ b ∨ H b = none
theorem Ext.refl (G : Gh) (μ : Sto) (H : Hp) : Ext G μ H G μ H :=
  ⟨fun _ _ h => h, fun _ _ h => .inl h, fun _ h => h, fun _ h => .inl h, fun _ _ h _ => h, fun _ h => h, fun _ h => .inl h⟩
section
variable {G G1 G2 : Gh} {μ μ1 μ2 : Sto} {H H1 H2 : Hp}
theorem Ext.trans (a : Ext G μ H G1 μ1 H1) (b : Ext G1 μ1 H1 G2 μ2 H2) : Ext G μ H G2 μ2 H2 where
  pre := fun n x h => b.pre n x (a.pre n x h)
  new := fun n x h => (b.new n x h).elim (fun h => a.new n x h) fun h => .inr (a.old x h)
  fz := fun x h => b.fz x (a.fz x h)
  fzn := fun x h => (b.fzn x h).elim (fun h => a.fzn x h) fun h => h.elim (fun h => .inr (.inl (a.old x h))) fun h => (a.lv x h).elim (fun h => .inr (.inr h)) fun h => .inr (.inl h)
  keep := fun x o h n => b.keep x o (a.keep x o h n) fun l => (a.lv x l).elim (fun l => n l) fun e => by rw [e] at h; cases h
  old := fun x h => a.old x (b.old x h)
  lv := fun x h => (b.lv x h).elim (fun h => a.lv x h) fun h => .inr (a.old x h)
end

/-- the heap and the store belong together -/
def KvR (K : PySem.W.Frag) (G : Gh) (H : Hp) : List (Key × D) → List (Key × V) → Prop
  | [], vs => vs = []
  | p :: ps, vs => ∃ v r, vs = (p.1, v) :: r ∧ Rep K G H p.2 v ∧ KvR K G H ps r
def FsR (K : PySem.W.Frag) (G : Gh) (H : Hp) (fs : List (Str × D)) (gs : List (Str × V)) : Prop :=
  ∀ f, (∀ d, fs.lookup f = some d → ∃ v, gs.lookup f = some v ∧ Rep K G H d v) ∧ (fs.lookup f = none → gs.lookup f = none)
def CellR (K : PySem.W.Frag) (Ca : Str → Addr) (G : Gh) (H : Hp) (c : Cell) (a : Addr) : Prop := match c with
  | .dead => True
  | .lst ds => ∃ vs, H a = some (.lst vs) ∧ Reps K G H ds vs
  | .dct kvs => ∃ vs, H a = some (.dK vs) ∧ KvR K G H kvs vs
  | .ins C fs => ∃ dx gs, H a = some (.ins (Ca C) dx gs) ∧ fs.length = gs.length ∧ FsR K G H fs gs
structure Okk (K : PySem.W.Frag) (Ca : Str → Addr) (G : Gh) (μ : Sto) (H : Hp) : Prop where
  len : μ.length = G.φ.length
  nd : ∀ (n m : Nat) (a : Addr), G.φ[n]? = some a → G.φ[m]? = some a → n = m
  ex : ∀ (n : Nat) (a : Addr), G.φ[n]? = some a → H a ≠ none
  nfz : ∀ b, Lv G μ b → ¬ G.Fz b
  fex : ∀ b, G.Fz b → H b ≠ none
  cell : ∀ (n : Nat) (c : Cell) (a : Addr), μ[n]? = some c → G.φ[n]? = some a → CellR K Ca G H c a

/-- what the data lean on stays -/
structure Stay (K : PySem.W.Frag) (G : Gh) (H : Hp) (G' : Gh) (H' : Hp) : Prop where
  pre : ∀ (n : Nat) (a : Addr), G.φ[n]? = some a → G'.φ[n]? = some a
  fz : ∀ b, G.Fz b → G'.Fz b
  tup : ∀ b o, H b = some o → (∃ xs, o = .tup xs ∨ ∃ ob, o = .frz ob (.tup xs)) → H' b = some o
  lst : ∀ b o, H b = some o → G.Fz b → H' b = some o
section
variable {K : PySem.W.Frag} {Ca : Str → Addr} {G G' : Gh} {μ μ' : Sto} {H H' : Hp}
theorem Stay.sqT (s : Stay K G H G' H') {a : Addr} {vs : List V} (h : SqT K H a vs) : SqT K H' a vs := by
  rcases h with (h | ⟨o, h⟩) | h
  · exact .inl (.inl (s.tup _ _ h ⟨_, .inl rfl⟩))
  · exact .inl (.inr ⟨o, s.tup _ _ h ⟨_, .inr ⟨_, rfl⟩⟩⟩)
  · exact .inr h
theorem Stay.ls (s : Stay K G H G' H') {a : Addr} {vs : List V} (h : LsR G H a vs) : LsR G' H' a vs := by
  exact ⟨s.fz _ h.1, s.lst _ _ h.2 h.1⟩
mutual
theorem Stay.rep (s : Stay K G H G' H') : ∀ (d : D) (v : V), Rep K G H d v → Rep K G' H' d v
  | .non, _, h => by simpa only [Rep] using h
  | .bl _, _, h => by simpa only [Rep] using h
  | .int _, _, h => by simpa only [Rep] using h
  | .str _, _, h => by simpa only [Rep] using h
  | .tup ds, _, h => by
    simp only [Rep] at h ⊢
    obtain ⟨a, vs, e, q, r⟩ := h
    exact ⟨a, vs, e, s.sqT q, s.reps ds vs r⟩
  | .lst ds, _, h => by
    simp only [Rep] at h ⊢
    obtain ⟨a, vs, e, q, r⟩ := h
    exact ⟨a, vs, e, s.ls q, s.reps ds vs r⟩
  | .ref n, _, h => by
    simp only [Rep] at h ⊢
    obtain ⟨a, e, q⟩ := h
    exact ⟨a, e, s.pre _ _ q⟩
  | .src ns, _, h => by
    simp only [Rep] at h ⊢
    obtain ⟨a, e, q⟩ := h
    exact ⟨a, e, q.imp (fun q => ⟨s.fz _ q.1, q.2.imp (fun h => s.lst _ _ h q.1) fun ⟨o, h⟩ => ⟨o, s.lst _ _ h q.1⟩⟩) fun q => q⟩
theorem Stay.reps (s : Stay K G H G' H') : ∀ (ds : List D) (vs : List V), Reps K G H ds vs → Reps K G' H' ds vs
  | [], _, h => by simpa only [Reps] using h
  | d :: ds, _, h => by
    simp only [Reps] at h ⊢
    obtain ⟨v, r, e, h1, h2⟩ := h
    exact ⟨v, r, e, s.rep d v h1, s.reps ds r h2⟩
end
theorem Stay.kv (s : Stay K G H G' H') : ∀ (ps : List (Key × D)) (vs : List (Key × V)), KvR K G H ps vs → KvR K G' H' ps vs
  | [], _, h => h
  | _ :: ps, _, ⟨v, r, e, h1, h2⟩ => ⟨v, r, e, s.rep _ _ h1, s.kv ps r h2⟩
theorem Stay.fs (s : Stay K G H G' H') {fs : List (Str × D)} {gs : List (Str × V)} (h : FsR K G H fs gs) : FsR K G' H' fs gs := fun f =>
  ⟨fun d e => let ⟨v, h1, h2⟩ := (h f).1 d e; ⟨v, h1, s.rep _ _ h2⟩, (h f).2⟩

/-- cells hold no tuples -/
theorem Okk.mut (k : Okk K Ca G μ H) {b : Addr} (l : Lv G μ b) : ∃ o, H b = some o ∧ ((∃ xs, o = .lst xs) ∨ (∃ xs, o = .dK xs) ∨ ∃ C dx fs, o = .ins C dx fs) := by
  obtain ⟨n, c, h1, h2, h3⟩ := l
  have q := k.cell n c b h2 h1
  cases c with
  | dead => exact absurd rfl h3
  | lst ds => obtain ⟨vs, e, _⟩ := q; exact ⟨_, e, .inl ⟨_, rfl⟩⟩
  | dct kvs => obtain ⟨vs, e, _⟩ := q; exact ⟨_, e, .inr (.inl ⟨_, rfl⟩)⟩
  | ins C fs => obtain ⟨dx, gs, e, _⟩ := q; exact ⟨_, e, .inr (.inr ⟨_, _, _, rfl⟩)⟩
theorem Ext.stay (k : Okk K Ca G μ H) (e : Ext G μ H G' μ' H') : Stay K G H G' H' where
  pre := e.pre
  fz := e.fz
  tup := fun b o h t => e.keep b o h fun l => by
    obtain ⟨o', h', q⟩ := k.mut l
    rw [h] at h'; cases h'
    obtain ⟨xs, t⟩ := t
    rcases q with ⟨_, rfl⟩ | ⟨_, rfl⟩ | ⟨_, _, _, rfl⟩ <;> (rcases t with t | ⟨_, t⟩ <;> cases t)
  lst := fun b o h f => e.keep b o h fun l => k.nfz b l f
end

/-! ### slots -/
structure SlR (K : PySem.W.Frag) (G : Gh) (H H0 : Hp) (ρ : Env) (σ : St) : Prop where
  len : ρ.length = σ.length
  val : ∀ (i : Nat) (d : D), ρ[i]? = some (.val d) → ∃ v, σ[i]? = some (some v) ∧ Rep K G H d v
  own : ∀ (i : Nat) (ds : List D), ρ[i]? = some (.own ds) → ∃ a vs, σ[i]? = some (some (.ref a)) ∧ H a = some (.lst vs) ∧ Reps K G H ds vs ∧ ¬ G.Fz a ∧ (∀ n : Nat, G.φ[n]? ≠ some a) ∧ H0 a = none
  dis : ∀ (i j : Nat) (a : Addr) (ds es : List D), ρ[i]? = some (.own ds) → ρ[j]? = some (.own es) → σ[i]? = some (some (.ref a)) → σ[j]? = some (some (.ref a)) → i = j
/-- the frame's entry -/
structure Ent where
  G : Gh
  μ : Sto
  H : Hp
  /-- the anchor: what it leans on stays from there on -/
  Ga : Gh
  Ha : Hp
/-- a value that is held: as data, or as a slot's own list -/
def Hd (K : PySem.W.Frag) (G : Gh) (H : Hp) (ρ : Env) (σ : St) (d : D) (v : V) : Prop :=
  Rep K G H d v ∨ ∃ (i : Nat) (ds : List D), ρ[i]? = some (.own ds) ∧ σ[i]? = some (some v) ∧ d = .lst ds
structure Rl (K : PySem.W.Frag) (Ca : Str → Addr) (Z : Ent) (G : Gh) (μ : Sto) (ρ : Env) (hv : List (D × V)) (σ : St) (H : Hp) : Prop where
  ext : Ext Z.G Z.μ Z.H G μ H
  ok : Okk K Ca G μ H
  sl : SlR K G H Z.H ρ σ
  hv : ∀ p ∈ hv, Hd K G H ρ σ p.1 p.2
  anc : Stay K Z.Ga Z.Ha G H
theorem Stay.trans {K : PySem.W.Frag} {G G1 G2 : Gh} {H H1 H2 : Hp} (a : Stay K G H G1 H1) (b : Stay K G1 H1 G2 H2) : Stay K G H G2 H2 :=
  ⟨fun n x h => b.pre n x (a.pre n x h), fun x h => b.fz x (a.fz x h), fun x o h t => b.tup x o (a.tup x o h t) t, fun x o h f => b.lst x o (a.lst x o h f) (a.fz x f)⟩
theorem Stay.refl {K : PySem.W.Frag} (G : Gh) (H : Hp) : Stay K G H G H := ⟨fun _ _ h => h, fun _ h => h, fun _ _ h _ => h, fun _ _ h _ => h⟩
section
variable {K : PySem.W.Frag} {Ca : Str → Addr} {Z : Ent} {G G' : Gh} {μ μ' : Sto} {ρ : Env} {hv : List (D × V)} {σ : St} {H H' : Hp}
/-- a slot's list is nobody's cell -/
theorem SlR.nlv {H0 : Hp} (s : SlR K G H H0 ρ σ) {i : Nat} {ds : List D} {a : Addr} (h : ρ[i]? = some (.own ds)) (e : σ[i]? = some (some (.ref a))) : ¬ Lv G μ a := fun ⟨n, _, h1, _⟩ => by
  obtain ⟨a', _, e', _, _, _, q, _⟩ := s.own i ds h
  rw [e] at e'; cases e'
  exact q n h1
theorem SlR.step {H0 : Hp} (k : Okk K Ca G μ H) (s : SlR K G H H0 ρ σ) (e : Ext G μ H G' μ' H') : SlR K G' H' H0 ρ σ where
  len := s.len
  val := fun i d h => let ⟨v, h1, h2⟩ := s.val i d h; ⟨v, h1, (e.stay k).rep _ _ h2⟩
  own := fun i ds h => by
    obtain ⟨a, vs, h1, h2, h3, h4, h5, h6⟩ := s.own i ds h
    have n : ¬ Lv G μ a := fun ⟨n, _, q, _⟩ => h5 n q
    refine ⟨a, vs, h1, e.keep a _ h2 n, (e.stay k).reps _ _ h3, fun f => ?_, fun n' q => ?_, h6⟩
    · rcases e.fzn a f with f | f | f
      · exact h4 f
      · rw [f] at h2; cases h2
      · exact n f
    · rcases e.new n' a q with q | q
      · exact h5 n' q
      · rw [q] at h2; cases h2
  dis := s.dis
theorem Hd.step {d : D} {v : V} (k : Okk K Ca G μ H) (h : Hd K G H ρ σ d v) (e : Ext G μ H G' μ' H') : Hd K G' H' ρ σ d v := h.imp (fun h => (e.stay k).rep _ _ h) fun h => h
/-- behind a part of the code -/
theorem Rl.step (r : Rl K Ca Z G μ ρ hv σ H) (e : Ext G μ H G' μ' H') (k : Okk K Ca G' μ' H') : Rl K Ca Z G' μ' ρ hv σ H' :=
  ⟨r.ext.trans e, k, r.sl.step r.ok e, fun p hp => (r.hv p hp).step r.ok e, r.anc.trans (e.stay r.ok)⟩
theorem Rl.hold (r : Rl K Ca Z G μ ρ hv σ H) {d : D} {v : V} (h : Hd K G H ρ σ d v) : Rl K Ca Z G μ ρ ((d, v) :: hv) σ H :=
  ⟨r.ext, r.ok, r.sl, fun p hp => by
    rcases List.mem_cons.mp hp with rfl | hp
    · exact h
    · exact r.hv p hp, r.anc⟩
theorem Rl.drop (r : Rl K Ca Z G μ ρ hv σ H) {hw : List (D × V)} (h : ∀ p ∈ hw, p ∈ hv) : Rl K Ca Z G μ ρ hw σ H := ⟨r.ext, r.ok, r.sl, fun p hp => r.hv p (h p hp), r.anc⟩

/-! ### a new object -/
theorem Ext.fresh (k : Okk K Ca G μ H) {p : Addr} {o : HO} (hp : H p = none) : Ext G μ H G μ (upd H p o) where
  pre := fun _ _ h => h
  new := fun _ _ h => .inl h
  fz := fun _ h => h
  fzn := fun _ h => .inl h
  keep := fun b u h _ => by rw [upd_ne (ne_of_none h hp)]; exact h
  old := fun b h => by
    by_cases e : b = p
    · rw [e]; exact hp
    · rw [upd_ne e] at h; exact h
  lv := fun _ h => .inl h
theorem CellR.step {c : Cell} {a : Addr} (st : Stay K G H G' H') (h : CellR K Ca G H c a) (e : ∀ o, H a = some o → H' a = some o) : CellR K Ca G' H' c a := by
  cases c with
  | dead => trivial
  | lst ds => obtain ⟨vs, h1, h2⟩ := h; exact ⟨vs, e _ h1, st.reps _ _ h2⟩
  | dct kvs => obtain ⟨vs, h1, h2⟩ := h; exact ⟨vs, e _ h1, st.kv _ _ h2⟩
  | ins C fs => obtain ⟨dx, gs, h1, h3, h2⟩ := h; exact ⟨dx, gs, e _ h1, h3, st.fs h2⟩
theorem Okk.fresh (k : Okk K Ca G μ H) {p : Addr} {o : HO} (hp : H p = none) : Okk K Ca G μ (upd H p o) where
  len := k.len
  nd := k.nd
  ex := fun n a h z => k.ex n a h ((Ext.fresh k hp).old a z)
  nfz := k.nfz
  fex := fun b h z => k.fex b h ((Ext.fresh k hp).old b z)
  cell := fun n c a h1 h2 => (k.cell n c a h1 h2).step ((Ext.fresh k hp).stay k) fun u h => by rw [upd_ne (ne_of_none h hp)]; exact h
/-- an object of the call's own is frozen -/
theorem Ext.freeze (k : Okk K Ca G μ H) {p : Addr} : (H p = none ∨ True) → Ext G μ H G μ H := fun _ => Ext.refl _ _ _
abbrev Gh.frz (G : Gh) (a : Addr) : Gh := ⟨G.φ, fun b => G.Fz b ∨ b = a⟩
end
end J
/-! list(reversed(a list)), list(a text). -/
namespace J
open PySem L2 PySem.Spec PyProof.Rows RT
section
variable {prog : Program} {w : World} {A : Around} {E : Value → Shared → Prop} {s : Shared}
theorem list_init_rev {R : Result → Shared → Prop} (h0 : A.handled = none) {it l S : Addr} {xs : Array Value} (ri : s.heap.IsRevIter it l ((xs.size : Int) - 1)) (il : s.heap.IsList l xs) (li : l ≠ it) (n0 : xs.size ≤ sizeLine)
    (si : S ≠ it) (sl : S ≠ l) (atS : s.heap.get? S = some { cls := .type "list", data := .seq #[] })
    (fin : ∀ (g' : Heap) (k' : Nat) (acc : Array Value) (c' : Nat), (∀ b o, b ≠ S → b ≠ it → s.heap.get? b = some o → g'.get? b = some o) → g'.get? S = some { cls := .type "list", dict := none, data := .seq acc c', slots := #[] } →
      ItemsOf (fun i v => xs[xs.size - 1 - i]? = some v) acc xs.size → R (.ok (.ret .none)) { s with heap := g', toks := k' }) :
    wpAny (model prog w) A.in1 (Builtin.«list.__init__» ⟨[.ref S, .ref it], []⟩)
      (fun z s' => match z with | .done f => R (.ok f) s' | .again c' => c'.quiet = true ∧ codeAny (model prog w) A c' R s') (fun e s' => R (.error e) s') s := by
  show wpAny _ _ (do let old ← Builtin.List.listItems (.ref S); Builtin.List.listUpdate (.ref S) (fun _ => #[]); letGo old.toList.reverse; Builtin.List.listExtendWith (.ref S) (.ref it) .none) _ _ s
  refine wpAny_bind ?_; unfold Builtin.List.listItems
  refine wpAny_bind (wpAny_seqItems atS rfl (wpAny_pure ?_))
  show wpAny _ _ (updateSeq S (fun _ => #[]) >>= fun _ => letGo (#[] : Array Value).toList.reverse >>= fun _ => Builtin.List.listExtendWith (.ref S) (.ref it) .none) _ _ s
  refine wpAny_bind (wpAny_updateSeq atS rfl ?_); refine wpAny_bind (wpAny_letGo ?_)
  have at2 := Heap.get?_update_self (Obj.mapSeq (fun _ => (#[] : Array Value))) atS rfl
  have oth : ∀ b o, b ≠ S → s.heap.get? b = some o → (s.heap.update S (Obj.mapSeq (fun _ => (#[] : Array Value)))).get? b = some o := fun b o hb e => (Heap.get?_update_other _ _ (Ne.symm hb)).trans e
  generalize (s.heap.update S (Obj.mapSeq (fun _ => (#[] : Array Value)))) = g1 at at2 oth ⊢
  have ri1 : g1.IsRevIter it l ((xs.size : Int) - 1) := ri.at fun o e => oth _ o (Ne.symm si) e
  have il1 : g1.IsList l xs := by
    obtain ⟨o, ho, hc, n, hd⟩ := il
    exact ⟨o, oth _ _ (Ne.symm sl) ho, hc, n, hd⟩
  have W := (Walks.listRev (prog := prog) (w := w) (A := A.in1) h0 it l li xs).toS
  have hSf : S ∉ [it, l] := by simp only [List.mem_cons, List.not_mem_nil, or_false, not_or]; exact ⟨si, sl⟩
  have hT : ({ s with heap := g1 } : Shared).TypeIs (.ref it) "list_reverseiterator" := Heap.IsRevIter.typeIs (s := { s with heap := g1 }) ri1
  have same : Builtin.List.listSameRef (.ref S) (.ref it) = false := by simp [Builtin.List.listSameRef, si]
  unfold Builtin.List.listExtendWith
  refine wpAny_bind (wpAny_typeOf hT ?_); rw [if_neg (by rw [same]; decide)]
  refine wpAny_bind (wpAny_pyIter_revIter (s := { s with heap := g1 }) ri1 ?_); refine wpAny_bind (wpAny_holding ?_)
  unfold Builtin.List.listLengthHint
  refine wpAny_bind (wpAny_specialOf hT nolen_lri ?_)
  show wpAny _ _ (specialOf (Value.ref it) (Str.ofString "__length_hint__") >>= _) _ _ _
  refine wpAny_bind (wpAny_specialOf hT hint_lri ?_)
  generalize hid : ("list_reverseiterator.__length_hint__" : String) = id0
  wp_delta
  rw [show splitId id0 = some ("list_reverseiterator", "__length_hint__") from by subst hid; decide +kernel]; subst hid
  refine wpAny_bind (wpAny_isInstance (b := true) hT (by rw [isSubtype_type]; kernel_rfl) ?_)
  refine wpAny_pure ?_; rw [if_neg (by decide)]
  have e0 : ((xs.size : Nat) : Int) - 1 - ((0 : Nat) : Int) = (xs.size : Int) - 1 := by omega
  refine wpAny_pure ⟨plainId_quiet F.plain_extend_loop _, codeAny_extend_loopS W n0 _ hSf _ xs.size 0 _ _ _ rfl (Nat.zero_le _) ⟨Nat.zero_le _, by rw [e0]; exact ri1, il1⟩ at2 (ItemsOf.nil _) fun s' acc c' hm hS' hacc => ?_⟩
  rw [Moved.eq_with hm]
  refine fin s'.heap s'.toks acc c' (fun b ob hb hi e => hm.heap b ob (fun hmem => ?_) (oth _ _ hb e)) hS' hacc
  rcases List.mem_cons.mp hmem with e' | hmem
  · exact hb e'
  · exact hi (List.mem_singleton.mp hmem)
theorem call_list_rev {it l : Addr} {xs : Array Value} {Q : Value → Shared → Prop} (h0 : A.handled = none) (ri : s.heap.IsRevIter it l ((xs.size : Int) - 1)) (il : s.heap.IsList l xs) (li : l ≠ it) (n0 : xs.size ≤ sizeLine)
    (fin : ∀ (g' : Heap) (k' : Nat) (acc : Array Value) (c' : Nat), (∀ b o, b ≠ it → s.heap.get? b = some o → g'.get? b = some o) → g'.get? s.heap.objs.size = some { cls := .type "list", dict := none, data := .seq acc c', slots := #[] } →
      ItemsOf (fun i v => xs[xs.size - 1 - i]? = some v) acc xs.size → Q (.ref s.heap.objs.size) { s with heap := g', toks := k' }) : wpAny (model prog w) A (call (.type "list") [.ref it]) Q E s := by
  refine callType_codes (Q₁ := fun ob t => ob = .ref s.heap.objs.size ∧ t = { s with heap := s.heap.push { cls := .type "list", data := .seq #[] } }) F.called_list (F.typeCall_list_1 _) F.entry_list_init (code_list_new _ ⟨rfl, rfl⟩) fun ob t ht => ?_
  obtain ⟨rfl, rfl⟩ := ht
  have atS : (s.heap.push { cls := .type "list", data := .seq #[] }).get? s.heap.objs.size = some { cls := .type "list", data := .seq #[] } := Heap.get?_push_size _ rfl
  obtain ⟨oi, hoi, _⟩ := id ri
  obtain ⟨ol, hol, _⟩ := id il
  refine ⟨⟨_, atS, rfl⟩, F.args_list_init_2 _ _, list_init_rev (A := A.in1) (l := l) (xs := xs) h0 (ri.at fun o e => Heap.get?_push_of_some _ e) (il.push _) li n0 (Nat.ne_of_gt (Heap.lt_size hoi)) (Nat.ne_of_gt (Heap.lt_size hol)) atS fun g' k' acc c' hk hS' hacc => ?_⟩
  exact ⟨rfl, fin g' k' acc c' (fun b o hb e => hk b o (Nat.ne_of_lt (Heap.lt_size e)) hb (Heap.get?_push_of_some _ e)) hS' hacc⟩
end
section
variable {X : Cx}
/-- list(reversed(x)), x a list: a new list -/
def tLstRev (K : PySem.W.Frag) (te : TE) : TE := fun σ H Q => te σ H fun v H1 => ∃ (a : Addr) (xs : List V), v = .ref a ∧ SqL K H1 a xs ∧ ∀ q, H1 q = none → Q (.ref q) (upd H1 q (.lst xs.reverse))
theorem pe_lstRev {e : Expr} {te : TE} {p p2 pos pos2 : Pos} (hc : X.calm = true) (hg : Gl X "list") (hm : X.mg "list" = none) (hg2 : Gl X "reversed") (hm2 : X.mg "reversed" = none) (he : PE X e te)
    (n1 : starEach [e] X.env = (false, eval e X.env) :: starEach [] X.env)
    (n2 : starEach [.Call (.Name "reversed" p2) [e] [] pos2] X.env = (false, eval (.Call (.Name "reversed" p2) [e] [] pos2) X.env) :: starEach [] X.env) :
    PE X (.Call (.Name "list" p) [.Call (.Name "reversed" p2) [e] [] pos2] [] pos) (tLstRev X.K te) := by
  refine ⟨fun pins s σ H Q I h => ?_⟩
  refine Call_ (ld_blt I hg hm boot_list (PyProof.Rows.callWith_type1 (args_cons (Call_ (ld_blt I hg2 hm2 PyProof.Rows.boot_reversed (PyProof.Rows.callWith_type1 (args_cons (thn (he.run pins s σ H _ I h) fun u s1 ⟨v, H1, I1, r1, q1⟩ => args_nil ?_) n1) n1 rfl))) n2) n2 rfl))
  obtain ⟨a, xs, ev, hq, q⟩ := q1
  subst ev; obtain rfl : u = Value.ref a := r1
  obtain ⟨its, rv, p', hz⟩ := I1.list hq
  refine call_reversed_list p'.isList (args_nil ?_)
  have I2 : Inv X pins σ H1 { s1 with heap := s1.heap.push (revObj a ((its.toArray.size : Int) - 1)) } := I1.kept (t' := s1.toks) fun _ _ e => Heap.get?_push_of_some _ e
  obtain ⟨f0, f1, f2, f3, f4, f5⟩ := I1.fpOk (H' := H1) (b := s1.heap.objs.size) (Nat.le_refl _) (I1.hok.fresh (Nat.le_refl _))
  have hl := p'.isList; obtain ⟨ol, hol, _⟩ := id hl
  have hne : a ≠ s1.heap.objs.size := Nat.ne_of_lt (Heap.lt_size hol)
  have hn : its.toArray.size ≤ sizeLine := by rw [List.size_toArray, ← rv.length]; exact hz
  refine call_list_rev (s := { s1 with heap := s1.heap.push (revObj a ((its.toArray.size : Int) - 1)) }) (I1.ok.hd hc) ⟨_, Heap.get?_push_size _ rfl, rfl, rfl⟩ (hl.push _) hne hn fun g' tk acc c' hk e' hi => ?_
  have f : FpOk X pins H1 s1.heap.objs.size := ⟨f0, f1, f2, f3, f4, f5⟩
  refine ⟨.ref _, upd H1 (s1.heap.push (revObj a ((its.toArray.size : Int) - 1))).objs.size (.lst xs.reverse), ?_, rfl, q _ (I2.hok.fresh (Nat.le_refl _))⟩
  exact Inv.turnedNew (ch := [s1.heap.objs.size]) I2 (fun b o hb e => hk b o (fun z => hb (by rw [z]; exact List.mem_singleton.mpr rfl)) e) (fun b hb => by rw [List.mem_singleton.mp hb]; exact f) (Nat.le_refl _)
    (show ObjOk X.prog X.w _ _ _ (.lst xs.reverse) from ⟨by rw [List.length_reverse]; exact hz, acc.toList, c', vals_rev rv hi, by rw [Array.toArray_toList]; exact e'⟩)
/-- list(a text): a new list of its signs -/
def signsV (x : Str) : List V := x.cps.toList.map fun c => V.str ⟨#[c]⟩
theorem vals_signs {x : Str} {acc : Array Value} (h : ItemsOf (SignAt x) acc x.cps.size) : Vals (signsV x) acc.toList := by
  refine vals_of_at (by rw [signsV, List.length_map, Array.length_toList, Array.length_toList, h.1]) fun j v u e1 e2 => ?_
  obtain ⟨c, t, e3, rfl⟩ := h.2 j u (by rw [← Array.getElem?_toList]; exact e2)
  rw [signsV, List.getElem?_map, Array.getElem?_toList, e3] at e1
  cases e1
  exact ⟨t, rfl⟩
theorem call_list_txt (hc : X.calm = true) : CallR X (.type "list") (fun xs H Q => ∃ x, xs = [.str x] ∧ x.length ≤ sizeLine ∧ ∀ q, H q = none → Q (.ref q) (upd H q (.lst (signsV x)))) := by
  intro pins s σ H xs us Q I r h
  obtain ⟨x, rfl, hz, q⟩ := h
  obtain ⟨u, rfl, t, rfl⟩ := vals1 r
  refine call_list_str (I.ok.hd hc) x t (fun h' tk acc c' hk e' hi => ?_) hz
  exact ⟨.ref s.heap.objs.size, upd H s.heap.objs.size (.lst (signsV x)), I.laid hk (Nat.le_refl _) (show ObjOk X.prog X.w _ _ _ (.lst (signsV x)) from ⟨by rw [signsV, List.length_map, Array.length_toList]; exact hz, acc.toList, c', vals_signs hi, by rw [Array.toArray_toList]; exact e'⟩), rfl, q _ (I.hok.fresh (Nat.le_refl _))⟩
end
end J
/-! what an evaluation says of the code; operations. -/
namespace J
open PySem L2 PySem.Spec PyProof.Rows

section
variable (K : PySem.W.Frag) (Ca : Str → Addr) (W : WX)
def RvR (ρ : Env) (σ : St) (G' : Gh) (H H' : Hp) : RV → V → Prop
  | .v d, x => Rep K G' H' d x
  | .fr ds, x => ∃ a vs, x = .ref a ∧ H a = none ∧ H' a = some (.lst vs) ∧ Reps K G' H' ds vs ∧ ¬ G'.Fz a ∧ ∀ n : Nat, G'.φ[n]? ≠ some a
  | .bo i ds, x => ρ[i]? = some (.own ds) ∧ σ[i]? = some (some x)
def ExR (x : Ex) (G : Gh) (H : Hp) (cls : Value) (d : Option Addr) : Prop :=
  cls = .ref (Ca x.cls) ∧ match x.fs with
    | [] => d = none
    | _ => ∃ dx gs, d = some dx ∧ H dx = some (.xd gs) ∧ FsR K G H x.fs gs
def At {α β : Type} (R : Gh → Hp → Hp → α → β → Prop) (σ : St) (G : Gh) (μ : Sto) (H : Hp) (m : M α) (Q : β → Hp → Prop) : Prop := match m μ with
  | none => False
  | some (.ok a μ1) => ∀ G1 v H1, Ext G μ H G1 μ1 H1 → Okk K Ca G1 μ1 H1 → R G1 H H1 a v → Q v H1
  | some (.exc x μ1) => ∀ G1 H1 cls d, Ext G μ H G1 μ1 H1 → Okk K Ca G1 μ1 H1 → ExR K Ca x G1 H1 cls d → W cls d σ H1
end
/-- what a relation to the heap ahead must bear -/
def Mono {α β : Type} (R : Gh → Hp → Hp → α → β → Prop) : Prop := ∀ G H0 H H' a v, (∀ b, H b = none → H0 b = none) → R G H H' a v → R G H0 H' a v
section
variable {K : PySem.W.Frag} {Ca : Str → Addr} {W : WX} {Z : Ent} {G G1 : Gh} {μ μ1 : Sto} {ρ : Env} {hv : List (D × V)} {σ : St} {H H1 : Hp}
theorem RvR.mono {ρ : Env} {σ : St} : Mono (RvR K ρ σ) := fun G H0 H H' a v o r => by
  cases a with
  | v d => exact r
  | fr ds => obtain ⟨a, vs, h1, h2, h3⟩ := r; exact ⟨a, vs, h1, o a h2, h3⟩
  | bo i ds => exact r
theorem At.bind {α β γ δ : Type} {R : Gh → Hp → Hp → α → β → Prop} {R' : Gh → Hp → Hp → γ → δ → Prop} {m : M α} {k : α → M γ} {Q : δ → Hp → Prop} (mono : Mono R') (h : At K Ca W R' σ G μ H (M.bind m k) Q) :
    At K Ca W R σ G μ H m fun x H1 => ∃ a G1 μ1, Ext G μ H G1 μ1 H1 ∧ Okk K Ca G1 μ1 H1 ∧ R G1 H H1 a x ∧ ∀ G2, Ext G μ H G2 μ1 H1 → Okk K Ca G2 μ1 H1 → At K Ca W R' σ G2 μ1 H1 (k a) Q := by
  unfold At M.bind at h
  unfold At
  cases e : m μ with
  | none => rw [e] at h; exact h
  | some r =>
    rw [e] at h
    cases r with
    | exc x μ1 => exact h
    | ok a μ1 =>
      intro G1 v H1 ex ok r
      refine ⟨a, G1, μ1, ex, ok, r, fun G2 e2 ok2 => ?_⟩
      have h : (match k a μ1 with
        | none => False
        | some (.ok a μ1) => ∀ G1 v H1, Ext G μ H G1 μ1 H1 → Okk K Ca G1 μ1 H1 → R' G1 H H1 a v → Q v H1
        | some (.exc x μ1) => ∀ G1 H1 cls d, Ext G μ H G1 μ1 H1 → Okk K Ca G1 μ1 H1 → ExR K Ca x G1 H1 cls d → W cls d σ H1) := h
      cases q : k a μ1 with
      | none => rw [q] at h; exact h
      | some r =>
        rw [q] at h
        cases r with
        | exc x μ2 => exact fun G3 H3 c d e3 ok3 x3 => h G3 H3 c d (e2.trans e3) ok3 x3
        | ok b μ2 => exact fun G3 w H3 e3 ok3 r3 => h G3 w H3 (e2.trans e3) ok3 (mono _ _ _ _ _ _ e2.old r3)
theorem At.imp {α β γ : Type} {R : Gh → Hp → Hp → α → β → Prop} {R' : Gh → Hp → Hp → α → γ → Prop} {m : M α} {Q : β → Hp → Prop} {Q' : γ → Hp → Prop} (h : At K Ca W R σ G μ H m Q)
    (f : ∀ G1 μ1 H1 a w, Ext G μ H G1 μ1 H1 → Okk K Ca G1 μ1 H1 → R' G1 H H1 a w → (∀ v, R G1 H H1 a v → Q v H1) → Q' w H1) : At K Ca W R' σ G μ H m Q' := by
  unfold At at h ⊢
  cases e : m μ with
  | none => rw [e] at h; exact h
  | some r =>
    rw [e] at h
    cases r with
    | exc x μ1 => exact h
    | ok a μ1 => exact fun G1 w H1 e1 ok1 r1 => f G1 μ1 H1 a w e1 ok1 r1 fun v r => h G1 v H1 e1 ok1 r
theorem At.pure {α β : Type} {R : Gh → Hp → Hp → α → β → Prop} {a : α} {Q : β → Hp → Prop} (ok : Okk K Ca G μ H) (h : At K Ca W R σ G μ H (M.pure a) Q) {v : β} (r : R G H H a v) : Q v H :=
  h G v H (Ext.refl _ _ _) ok r
/-- the same, at a heap that has grown -/
theorem At.pureX {α β : Type} {R : Gh → Hp → Hp → α → β → Prop} {a : α} {Q : β → Hp → Prop} (h : At K Ca W R σ G μ H (M.pure a) Q) {v : β} {G1 : Gh} {H1 : Hp} (e : Ext G μ H G1 μ H1) (ok : Okk K Ca G1 μ H1) (r : R G1 H H1 a v) : Q v H1 :=
  h G1 v H1 e ok r
theorem At.oM {α β : Type} {R : Gh → Hp → Hp → α → β → Prop} {o : Option α} {Q : β → Hp → Prop} (h : At K Ca W R σ G μ H (J.oM o) Q) : ∃ a, o = some a ∧ At K Ca W R σ G μ H (M.pure a) Q := by
  cases o with
  | none => exact False.elim h
  | some a => exact ⟨a, rfl, h⟩
theorem At.oMb {α β γ : Type} {R : Gh → Hp → Hp → γ → β → Prop} {o : Option α} {k : α → M γ} {Q : β → Hp → Prop} (h : At K Ca W R σ G μ H (M.bind (J.oM o) k) Q) : ∃ a, o = some a ∧ At K Ca W R σ G μ H (k a) Q := by
  cases o with
  | none => exact False.elim h
  | some a => exact ⟨a, rfl, h⟩
theorem At.pureb {α β γ : Type} {R : Gh → Hp → Hp → γ → β → Prop} {a : α} {k : α → M γ} {Q : β → Hp → Prop} (h : At K Ca W R σ G μ H (M.bind (M.pure a) k) Q) : At K Ca W R σ G μ H (k a) Q := h
theorem At.ite {α β : Type} {R : Gh → Hp → Hp → α → β → Prop} {c : Prop} [Decidable c] {m : M α} {Q : β → Hp → Prop} (h : At K Ca W R σ G μ H (if c then m else stuck) Q) : c ∧ At K Ca W R σ G μ H m Q := by
  by_cases hc : c
  · rw [if_pos hc] at h; exact ⟨hc, h⟩
  · rw [if_neg hc] at h; exact False.elim h

/-- a value has come: it is held from now on -/
theorem Rl.take (rl : Rl K Ca Z G μ ρ hv σ H) (e : Ext G μ H G1 μ1 H1) (ok : Okk K Ca G1 μ1 H1) {rv : RV} {x : V} (r : RvR K ρ σ G1 H H1 rv x) :
    ∃ G2, Ext G μ H G2 μ1 H1 ∧ Okk K Ca G2 μ1 H1 ∧ Rl K Ca Z G2 μ1 ρ ((rv.d, x) :: hv) σ H1 ∧ (∀ d, rv.val = some d → Rep K G2 H1 d x) ∧ (∀ i ds, rv = .bo i ds → ρ[i]? = some (.own ds) ∧ σ[i]? = some (some x)) := by
  have r1 := rl.step e ok
  cases rv with
  | v d => exact ⟨G1, e, ok, r1.hold (.inl r), fun d' h => (by cases h; exact r), fun i ds h => (by cases h)⟩
  | bo i ds => exact ⟨G1, e, ok, r1.hold (.inr ⟨i, ds, r.1, r.2, rfl⟩), fun d' h => (by cases h), fun i' ds' h => (by cases h; exact r)⟩
  | fr ds =>
    obtain ⟨a, vs, rfl, h0, h1, h2, h3, h4⟩ := r
    have nl : ¬ Lv G1 μ1 a := fun ⟨n, _, q, _⟩ => h4 n q
    have e2 : Ext G μ H (G1.frz a) μ1 H1 := ⟨e.pre, e.new, fun b f => .inl (e.fz b f), fun b f => f.elim (fun f => e.fzn b f) fun f => .inr (.inl (by rw [f]; exact h0)), e.keep, e.old, e.lv⟩
    have st : Stay K G1 H1 (G1.frz a) H1 := ⟨fun _ _ h => h, fun _ f => .inl f, fun _ _ h _ => h, fun _ _ h _ => h⟩
    have ok2 : Okk K Ca (G1.frz a) μ1 H1 := ⟨ok.len, ok.nd, ok.ex, fun b l f => f.elim (ok.nfz b l) fun f => nl (by rw [← f]; exact l), fun b f => f.elim (ok.fex b) fun f z => (by rw [f, h1] at z; cases z),
      fun n c b q1 q2 => (ok.cell n c b q1 q2).step st fun _ h => h⟩
    have rp : Rep K (G1.frz a) H1 (.lst ds) (.ref a) := by
      simp only [Rep]
      exact ⟨a, vs, rfl, ⟨.inr rfl, h1⟩, st.reps _ _ h2⟩
    exact ⟨_, e2, ok2, (rl.step e2 ok2).hold (.inl rp), fun d h => (by cases h; exact rp), fun i ds h => (by cases h)⟩
end

/-! ### readings by evaluation -/
section
variable (K : PySem.W.Frag) (Ca : Str → Addr) (W : WX) (C : Calls) (g : List D)
def tE (e : E) : TE := fun σ H Q => ∃ Z G μ ρ hv, Rl K Ca Z G μ ρ hv σ H ∧ At K Ca W (RvR K ρ σ) σ G μ H (evalE C g e ρ) Q
def RB : Gh → Hp → Hp → Bool → Bool → Prop := fun _ _ _ a b => a = b
def tT (e : E) : TT := fun σ H Q => ∃ Z G μ ρ hv, Rl K Ca Z G μ ρ hv σ H ∧ At K Ca W RB σ G μ H (evalT C g e ρ) Q
def RRs : Gh → Hp → Hp → List D → List V → Prop := fun G _ H ds vs => Reps K G H ds vs
def Hds (G : Gh) (H : Hp) (ρ : Env) (σ : St) : List D → List V → Prop
  | [], vs => vs = []
  | d :: ds, vs => ∃ v r, vs = v :: r ∧ Hd K G H ρ σ d v ∧ Hds G H ρ σ ds r
def RBs (ρ : Env) (σ : St) : Gh → Hp → Hp → List D → List V → Prop := fun G _ H ds vs => Hds K G H ρ σ ds vs
def tAs (es : List E) : TA := fun σ H Q => ∃ Z G μ ρ hv, Rl K Ca Z G μ ρ hv σ H ∧ At K Ca W (RRs K) σ G μ H (evalEs C g es ρ) Q
def tBs (es : List E) : TA := fun σ H Q => ∃ Z G μ ρ hv, Rl K Ca Z G μ ρ hv σ H ∧ At K Ca W (RBs K ρ σ) σ G μ H (evalBs C g es ρ) Q
def RO : Gh → Hp → Hp → Option Int → Option Int → Prop := fun _ _ _ a b => a = b
def tO (e : Option E) : TO := fun σ H Q => ∃ Z G μ ρ hv, Rl K Ca Z G μ ρ hv σ H ∧ At K Ca W RO σ G μ H (evalO C g e ρ) Q
end
theorem RB.mono : Mono RB := fun _ _ _ _ _ _ _ r => r
theorem RRs.mono {K : PySem.W.Frag} : Mono (RRs K) := fun _ _ _ _ _ _ _ r => r
theorem RBs.mono {K : PySem.W.Frag} {ρ : Env} {σ : St} : Mono (RBs K ρ σ) := fun _ _ _ _ _ _ _ r => r
theorem RO.mono : Mono RO := fun _ _ _ _ _ _ _ r => r
section
variable {K : PySem.W.Frag} {Ca : Str → Addr} {W : WX} {C : Calls} {g : List D} {Z : Ent} {G G1 : Gh} {μ μ1 : Sto} {ρ : Env} {hv : List (D × V)} {σ : St} {H H1 : Hp}
theorem tE_then {α β : Type} {R' : Gh → Hp → Hp → α → β → Prop} {e : E} {k : RV → M α} {Q : β → Hp → Prop} {T : VK} (mono : Mono R') (rl : Rl K Ca Z G μ ρ hv σ H) (h : At K Ca W R' σ G μ H (M.bind (evalE C g e ρ) k) Q)
    (next : ∀ rv x G1 μ1 H1, Ext G μ H G1 μ1 H1 → Rl K Ca Z G1 μ1 ρ ((rv.d, x) :: hv) σ H1 → (∀ d, rv.val = some d → Rep K G1 H1 d x) → (∀ i ds, rv = .bo i ds → ρ[i]? = some (.own ds) ∧ σ[i]? = some (some x)) → At K Ca W R' σ G1 μ1 H1 (k rv) Q → T x H1) :
    tE K Ca W C g e σ H T := by
  refine ⟨Z, G, μ, ρ, hv, rl, (At.bind (R := RvR K ρ σ) mono h).imp fun G1 μ1 H1 rv x e1 ok1 r1 f => ?_⟩
  obtain ⟨a, G2, μ2, e2, ok2, r2, q⟩ := f x r1
  obtain ⟨G3, e3, ok3, rl3, v3, b3⟩ := rl.take e2 ok2 r2
  exact next a x G3 μ2 H1 e3 rl3 v3 b3 (q G3 e3 ok3)
end

/-! ### what is known of a held value -/
section
variable {K : PySem.W.Frag} {Ca : Str → Addr} {Z : Ent} {G : Gh} {μ : Sto} {ρ : Env} {hv : List (D × V)} {σ : St} {H : Hp} {x : V}
theorem Hd.non (h : Hd K G H ρ σ .non x) : x = .non := h.elim (fun h => by simpa only [Rep] using h) fun ⟨_, _, _, _, e⟩ => by cases e
theorem Hd.bl {b : Bool} (h : Hd K G H ρ σ (.bl b) x) : x = .bl b := h.elim (fun h => by simpa only [Rep] using h) fun ⟨_, _, _, _, e⟩ => by cases e
theorem Hd.int {i : Int} (h : Hd K G H ρ σ (.int i) x) : x = .int i := h.elim (fun h => by simpa only [Rep] using h) fun ⟨_, _, _, _, e⟩ => by cases e
theorem Hd.str {z : Str} (h : Hd K G H ρ σ (.str z) x) : x = .str z := h.elim (fun h => by simpa only [Rep] using h) fun ⟨_, _, _, _, e⟩ => by cases e
theorem Hd.tup {ds : List D} (h : Hd K G H ρ σ (.tup ds) x) : ∃ a vs, x = .ref a ∧ SqT K H a vs ∧ Reps K G H ds vs := h.elim (fun h => by simpa only [Rep] using h) fun ⟨_, _, _, _, e⟩ => by cases e
theorem Hd.ref {n : Nat} (h : Hd K G H ρ σ (.ref n) x) : ∃ a, x = .ref a ∧ G.φ[n]? = some a := h.elim (fun h => by simpa only [Rep] using h) fun ⟨_, _, _, _, e⟩ => by cases e
theorem Hd.src {ns : List Int} (h : Hd K G H ρ σ (.src ns) x) : ∃ a, x = .ref a ∧ SqL K H a (ns.map V.int) := h.elim (fun h => by
  simp only [Rep] at h
  obtain ⟨a, e, q⟩ := h
  exact ⟨a, e, q.elim (fun q => .inl q.2) .inr⟩) fun ⟨_, _, _, _, e⟩ => by cases e
/-- a list: where it stands, its items -/
theorem Hd.lst {H0 : Hp} {ds : List D} (s : SlR K G H H0 ρ σ) (h : Hd K G H ρ σ (.lst ds) x) : ∃ a vs, x = .ref a ∧ H a = some (.lst vs) ∧ Reps K G H ds vs := by
  rcases h with h | ⟨i, es, h1, h2, e⟩
  · simp only [Rep] at h
    obtain ⟨a, vs, e, q, r⟩ := h
    exact ⟨a, vs, e, q.2, r⟩
  · cases e
    obtain ⟨a, vs, q1, q2, q3, _⟩ := s.own i ds h1
    rw [q1] at h2; cases h2
    exact ⟨a, vs, rfl, q2, q3⟩
theorem Reps.length : ∀ {ds : List D} {vs : List V}, Reps K G H ds vs → ds.length = vs.length
  | [], _, h => by simp only [Reps] at h; rw [h]; rfl
  | _ :: ds, _, h => by
    simp only [Reps] at h
    obtain ⟨v, r, rfl, _, h2⟩ := h
    rw [List.length_cons, List.length_cons, Reps.length h2]
theorem Reps.get : ∀ {ds : List D} {vs : List V} {i : Nat} {d : D}, Reps K G H ds vs → ds[i]? = some d → ∃ v, vs[i]? = some v ∧ Rep K G H d v
  | [], _, _, _, _, e => by simp at e
  | _ :: _, _, 0, _, h, e => by
    simp only [Reps] at h
    obtain ⟨v, r, rfl, h1, _⟩ := h
    simp at e; subst e
    exact ⟨v, rfl, h1⟩
  | _ :: ds, _, i + 1, d, h, e => by
    simp only [Reps] at h
    obtain ⟨v, r, rfl, _, h2⟩ := h
    obtain ⟨v', q1, q2⟩ := Reps.get (i := i) (d := d) h2 (by simpa using e)
    exact ⟨v', by simpa using q1, q2⟩
theorem Reps.getV : ∀ {ds : List D} {vs : List V} {i : Nat} {v : V}, Reps K G H ds vs → vs[i]? = some v → ∃ d, ds[i]? = some d ∧ Rep K G H d v
  | [], _, _, _, h, e => by simp only [Reps] at h; subst h; simp at e
  | d :: _, _, 0, _, h, e => by
    simp only [Reps] at h
    obtain ⟨v, r, rfl, h1, _⟩ := h
    simp at e; subst e
    exact ⟨d, rfl, h1⟩
  | _ :: ds, _, i + 1, v, h, e => by
    simp only [Reps] at h
    obtain ⟨v, r, rfl, _, h2⟩ := h
    obtain ⟨d', q1, q2⟩ := Reps.getV (i := i) h2 (by simpa using e)
    exact ⟨d', by simpa using q1, q2⟩
theorem Reps.append : ∀ {ds es : List D} {vs ws : List V}, Reps K G H ds vs → Reps K G H es ws → Reps K G H (ds ++ es) (vs ++ ws)
  | [], _, _, _, h, k => by simp only [Reps] at h; subst h; exact k
  | _ :: ds, es, _, ws, h, k => by
    simp only [Reps] at h
    obtain ⟨v, r, rfl, h1, h2⟩ := h
    show Reps K G H (_ :: (ds ++ es)) (v :: (r ++ ws))
    simp only [Reps]
    exact ⟨v, _, rfl, h1, Reps.append h2 k⟩
theorem Reps.take : ∀ {ds : List D} {vs : List V} (n : Nat), Reps K G H ds vs → Reps K G H (ds.take n) (vs.take n)
  | _, _, 0, _ => by simp only [List.take_zero, Reps]
  | [], _, _ + 1, h => by simp only [Reps] at h; subst h; simp only [List.take_nil, Reps]
  | _ :: ds, _, n + 1, h => by
    simp only [Reps] at h
    obtain ⟨v, r, rfl, h1, h2⟩ := h
    simp only [List.take_succ_cons, Reps]
    exact ⟨v, _, rfl, h1, Reps.take n h2⟩
theorem Reps.drop : ∀ {ds : List D} {vs : List V} (n : Nat), Reps K G H ds vs → Reps K G H (ds.drop n) (vs.drop n)
  | _, _, 0, h => h
  | [], _, _ + 1, h => by simp only [Reps] at h; subst h; simp only [List.drop_nil, Reps]
  | _ :: ds, _, n + 1, h => by
    simp only [Reps] at h
    obtain ⟨v, r, rfl, h1, h2⟩ := h
    exact Reps.drop n h2
theorem Reps.set : ∀ {ds : List D} {vs : List V} {d : D} {v : V} (n : Nat), Reps K G H ds vs → Rep K G H d v → Reps K G H (ds.set n d) (vs.set n v)
  | [], _, _, _, _, h, _ => by simp only [Reps] at h; subst h; simp only [List.set_nil, Reps]
  | _ :: ds, _, _, _, 0, h, k => by
    simp only [Reps] at h
    obtain ⟨v, r, rfl, h1, h2⟩ := h
    simp only [List.set_cons_zero, Reps]
    exact ⟨_, _, rfl, k, h2⟩
  | _ :: ds, _, _, _, n + 1, h, k => by
    simp only [Reps] at h
    obtain ⟨v, r, rfl, h1, h2⟩ := h
    simp only [List.set_cons_succ, Reps]
    exact ⟨_, _, rfl, h1, Reps.set n h2 k⟩
theorem Reps.one {d : D} {v : V} (h : Rep K G H d v) : Reps K G H [d] [v] := by
  simp only [Reps]
  exact ⟨v, [], rfl, h, rfl⟩
theorem Reps.nil : Reps K G H [] [] := by simp only [Reps]
theorem Reps.cons {d : D} {v : V} {ds : List D} {vs : List V} (h : Rep K G H d v) (k : Reps K G H ds vs) : Reps K G H (d :: ds) (v :: vs) := by
  simp only [Reps]
  exact ⟨v, vs, rfl, h, k⟩
theorem Reps.rep (k : Nat) {ds : List D} {vs : List V} (h : Reps K G H ds vs) : Reps K G H (List.replicate k ds).flatten (List.replicate k vs).flatten := by
  induction k with
  | zero => simp [Reps]
  | succ n ih =>
    rw [List.replicate_succ, List.replicate_succ, List.flatten_cons, List.flatten_cons]
    exact h.append ih
theorem Reps.reverse {ds : List D} {vs : List V} (h : Reps K G H ds vs) : Reps K G H ds.reverse vs.reverse := by
  induction ds generalizing vs with
  | nil => simp only [Reps] at h; subst h; exact Reps.nil
  | cons d ds ih =>
    simp only [Reps] at h
    obtain ⟨v, r, rfl, h1, h2⟩ := h
    rw [List.reverse_cons, List.reverse_cons]
    exact (ih h2).append (.one h1)
theorem Reps.dropLast {ds : List D} {vs : List V} (h : Reps K G H ds vs) : Reps K G H ds.dropLast vs.dropLast := by
  rw [List.dropLast_eq_take, List.dropLast_eq_take, ← h.length]
  exact h.take _
theorem Reps.ints : ∀ (ns : List Int), Reps K G H (ns.map D.int) (ns.map V.int)
  | [] => Reps.nil
  | n :: r => Reps.cons (by simp only [Rep]) (Reps.ints r)
theorem Reps.signs (x : Str) : Reps K G H (x.cps.toList.map strD) (x.cps.toList.map fun c => V.str ⟨#[c]⟩) := by
  induction x.cps.toList with
  | nil => exact Reps.nil
  | cons c r ih => exact Reps.cons (by simp only [strD, Rep]) ih
theorem Reps.strs : ∀ (ns : List Str), Reps K G H (ns.map D.str) (ns.map V.str)
  | [] => Reps.nil
  | n :: r => Reps.cons (by simp only [Rep]) (Reps.strs r)
theorem Reps.ofInts : ∀ {ds : List D} {vs : List V} {ns : List Int}, Reps K G H ds vs → intsD ds = some ns → vs = ns.map V.int
  | [], _, _, h, e => by simp only [Reps] at h; simp only [intsD, Option.some.injEq] at e; rw [h, ← e]; rfl
  | .int i :: r, _, _, h, e => by
    simp only [Reps, Rep] at h
    obtain ⟨v, r', rfl, rfl, h2⟩ := h
    simp only [intsD, Option.map_eq_some_iff] at e
    obtain ⟨ns, e1, rfl⟩ := e
    rw [Reps.ofInts h2 e1]; rfl
  | .non :: _, _, _, _, e => by simp [intsD] at e
  | .bl _ :: _, _, _, _, e => by simp [intsD] at e
  | .str _ :: _, _, _, _, e => by simp [intsD] at e
  | .tup _ :: _, _, _, _, e => by simp [intsD] at e
  | .lst _ :: _, _, _, _, e => by simp [intsD] at e
  | .ref _ :: _, _, _, _, e => by simp [intsD] at e
  | .src _ :: _, _, _, _, e => by simp [intsD] at e
theorem Reps.ofBls : ∀ {ds : List D} {vs : List V} {ns : List Bool}, Reps K G H ds vs → blsD ds = some ns → vs = ns.map V.bl
  | [], _, _, h, e => by simp only [Reps] at h; simp only [blsD, Option.some.injEq] at e; rw [h, ← e]; rfl
  | .bl i :: r, _, _, h, e => by
    simp only [Reps, Rep] at h
    obtain ⟨v, r', rfl, rfl, h2⟩ := h
    simp only [blsD, Option.map_eq_some_iff] at e
    obtain ⟨ns, e1, rfl⟩ := e
    rw [Reps.ofBls h2 e1]; rfl
  | .non :: _, _, _, _, e => by simp [blsD] at e
  | .int _ :: _, _, _, _, e => by simp [blsD] at e
  | .str _ :: _, _, _, _, e => by simp [blsD] at e
  | .tup _ :: _, _, _, _, e => by simp [blsD] at e
  | .lst _ :: _, _, _, _, e => by simp [blsD] at e
  | .ref _ :: _, _, _, _, e => by simp [blsD] at e
  | .src _ :: _, _, _, _, e => by simp [blsD] at e
theorem Reps.ofStrs : ∀ {ds : List D} {vs : List V} {ns : List Str}, Reps K G H ds vs → strsD ds = some ns → vs = ns.map V.str
  | [], _, _, h, e => by simp only [Reps] at h; simp only [strsD, Option.some.injEq] at e; rw [h, ← e]; rfl
  | .str i :: r, _, _, h, e => by
    simp only [Reps, Rep] at h
    obtain ⟨v, r', rfl, rfl, h2⟩ := h
    simp only [strsD, Option.map_eq_some_iff] at e
    obtain ⟨ns, e1, rfl⟩ := e
    rw [Reps.ofStrs h2 e1]; rfl
  | .non :: _, _, _, _, e => by simp [strsD] at e
  | .int _ :: _, _, _, _, e => by simp [strsD] at e
  | .bl _ :: _, _, _, _, e => by simp [strsD] at e
  | .tup _ :: _, _, _, _, e => by simp [strsD] at e
  | .lst _ :: _, _, _, _, e => by simp [strsD] at e
  | .ref _ :: _, _, _, _, e => by simp [strsD] at e
  | .src _ :: _, _, _, _, e => by simp [strsD] at e
/-! as the comparison reads it -/
mutual
theorem Rep.dp : ∀ (d : D) (v : V), Rep K G H d v → PyData.canLay0 d.py = true → Dp K H v d.py
  | .non, _, h, _ => by simp only [Rep] at h; subst h; simp only [D.py]; exact .non
  | .bl b, _, h, _ => by simp only [Rep] at h; subst h; simp only [D.py]; exact .bl b
  | .int b, _, h, _ => by simp only [Rep] at h; subst h; simp only [D.py]; exact .int b
  | .str b, _, h, _ => by simp only [Rep] at h; subst h; simp only [D.py]; exact .str b
  | .tup ds, _, h, c => by
    simp only [Rep] at h
    obtain ⟨a, vs, rfl, q, r⟩ := h
    simp only [D.py, PyData.canLay0] at c ⊢
    exact .tup q (Reps.dp ds vs r c)
  | .lst ds, _, h, c => by
    simp only [Rep] at h
    obtain ⟨a, vs, rfl, q, r⟩ := h
    simp only [D.py, PyData.canLay0] at c ⊢
    exact .lst q.sq (Reps.dp ds vs r c)
  | .ref n, _, h, c => by simp only [D.py, PyData.canLay0] at c; cases c
  | .src n, _, h, c => by simp only [D.py, PyData.canLay0] at c; cases c
theorem Reps.dp : ∀ (ds : List D) (vs : List V), Reps K G H ds vs → PyData.canLayAll0 (pys ds) = true → DpAll K H vs (pys ds)
  | [], _, h, _ => by simp only [Reps] at h; subst h; simp only [pys]; exact .nil
  | d :: ds, _, h, c => by
    simp only [Reps] at h
    obtain ⟨v, r, rfl, h1, h2⟩ := h
    simp only [pys, PyData.canLayAll0, Bool.and_eq_true] at c ⊢
    exact .cons (Rep.dp d v h1 c.1) (Reps.dp ds r h2 c.2)
end
theorem Hd.dp {H0 : Hp} {d : D} (s : SlR K G H H0 ρ σ) (h : Hd K G H ρ σ d x) (c : shp d = true) : Dp K H x d.py := by
  have c2 := SeqAt.canLay_of_shaped c
  rcases h with h | ⟨i, ds, h1, h2, rfl⟩
  · exact h.dp _ _ c2
  · obtain ⟨a, vs, q1, q2, q3, _⟩ := s.own i ds h1
    rw [q1] at h2; cases h2
    simp only [D.py, PyData.canLay0] at c2 ⊢
    exact .lst (.inl (.inl q2)) (Reps.dp ds vs q3 c2)
theorem Rep.flat {d : D} {v : V} (h : Rep K G H d v) (f : isFlat d = true) : v = dV d ∧ flatV v = true := by
  cases d <;> simp only [Rep] at h <;> first | (subst h; exact ⟨rfl, rfl⟩) | cases f
theorem eq_flat {d e : D} (f : isFlat d = true) (f' : isFlat e = true) : eqV (dV d) (dV e) = eqD d e := by
  cases d <;> cases e <;> first | rfl | cases f | cases f' | (simp [eqV, dV, eqD, D.py, PyData.eqv])
theorem Reps.flat : ∀ {ds : List D} {vs : List V}, Reps K G H ds vs → ds.all isFlat = true → vs = ds.map dV ∧ vs.all flatV = true
  | [], _, h, _ => by simp only [Reps] at h; subst h; exact ⟨rfl, rfl⟩
  | d :: ds, _, h, c => by
    simp only [Reps] at h
    obtain ⟨v, r, rfl, h1, h2⟩ := h
    rw [List.all_cons, Bool.and_eq_true] at c
    obtain ⟨e1, f1⟩ := h1.flat c.1
    obtain ⟨e2, f2⟩ := Reps.flat h2 c.2
    exact ⟨by rw [e1, e2]; rfl, by rw [List.all_cons, f1, f2]; rfl⟩
theorem inV_flat {d : D} (f : isFlat d = true) : ∀ {ds : List D}, ds.all isFlat = true → inV (dV d) (ds.map dV) = ds.any fun z => eqD z d
  | [], _ => rfl
  | e :: ds, c => by
    rw [List.all_cons, Bool.and_eq_true] at c
    have ih := inV_flat f c.2
    unfold inV at ih ⊢
    rw [List.map_cons, List.any_cons, List.any_cons, eq_flat c.1 f, ih]
end
end J
/-! operations by values. -/
namespace J
open PySem L2 PySem.Spec PyProof.Rows
section
variable {K : PySem.W.Frag} {Ca : Str → Addr} {W : WX} {Z : Ent} {G : Gh} {μ : Sto} {ρ : Env} {hv : List (D × V)} {σ : St} {H : Hp} {Q : VK}
theorem same_of {d : D} {v : V} (ok : Okk K Ca G μ H) (q : At K Ca W (RvR K ρ σ) σ G μ H (M.pure (.v d)) Q) (r : Rep K G H d v) : Q v H := q.pure ok r
theorem rInt {i : Int} : Rep K G H (.int i) (.int i) := by simp only [Rep]
theorem rBl {b : Bool} : Rep K G H (.bl b) (.bl b) := by simp only [Rep]
theorem rStr {x : Str} : Rep K G H (.str x) (.str x) := by simp only [Rep]
theorem newL {ds : List D} {vs : List V} (ok : Okk K Ca G μ H) (q : At K Ca W (RvR K ρ σ) σ G μ H (M.pure (.fr ds)) Q) (r : Reps K G H ds vs) : ∀ p, H p = none → Q (.ref p) (upd H p (.lst vs)) := fun p hp =>
  q.pureX (Ext.fresh ok hp) (ok.fresh hp) ⟨p, vs, rfl, hp, upd_same, ((Ext.fresh ok hp).stay ok).reps _ _ r, fun f => ok.fex p f hp, fun n h => ok.ex n p h hp⟩
theorem newT {ds : List D} {vs : List V} (ok : Okk K Ca G μ H) (q : At K Ca W (RvR K ρ σ) σ G μ H (M.pure (.v (.tup ds))) Q) (r : Reps K G H ds vs) : ∀ p, H p = none → Q (.ref p) (upd H p (.tup vs)) := fun p hp =>
  q.pureX (Ext.fresh ok hp) (ok.fresh hp) (by
    show Rep K G _ (.tup ds) (.ref p)
    simp only [Rep]
    exact ⟨p, vs, rfl, .inl (.inl upd_same), ((Ext.fresh ok hp).stay ok).reps _ _ r⟩)
end

section
variable (K : PySem.W.Frag) (Ca : Str → Addr) (W : WX)
/-- two held values, what is made of them -/
def rOp (m : D → D → M RV) : R2 := fun x y H Q => ∃ Z G μ ρ hv σ d e, Rl K Ca Z G μ ρ hv σ H ∧ Hd K G H ρ σ d x ∧ Hd K G H ρ σ e y ∧ At K Ca W (RvR K ρ σ) σ G μ H (m d e) Q
def rUn (m : D → M RV) : V → Hp → VK → Prop := fun x H Q => ∃ Z G μ ρ hv σ d, Rl K Ca Z G μ ρ hv σ H ∧ Hd K G H ρ σ d x ∧ At K Ca W (RvR K ρ σ) σ G μ H (m d) Q
def rCl (m : List D → M RV) : List V → Hp → VK → Prop := fun xs H Q => ∃ Z G μ ρ hv σ ds, Rl K Ca Z G μ ρ hv σ H ∧ Hds K G H ρ σ ds xs ∧ At K Ca W (RvR K ρ σ) σ G μ H (m ds) Q
end
def BOp.op : BOp → Operator
  | .add => .Add | .sub => .Sub | .mul => .Mult | .fdiv => .FloorDiv | .mod => .Mod | .pow => .Pow
def COp.op : COp → CmpOp
  | .eq => .Eq | .ne => .NotEq | .lt => .Lt | .le => .LtE | .gt => .Gt | .ge => .GtE | .isin => .In | .notin => .NotIn | .is => .Is | .isnot => .IsNot
section
variable {X : Cx} {Ca : Str → Addr} {W : WX}
theorem bin_ok (o : BOp) : OpR X (binaryOp o.op) (rOp X.K Ca W fun a b => oM (binD o a b)) := by
  intro pins s σ0 H x y v u Q I rx ry h
  obtain ⟨Z, G, μ, ρ, hv, σ, d, e, rl, hd, he, q⟩ := h
  obtain ⟨rv, eq, q⟩ := q.oM
  have ok := rl.ok
  unfold binD at eq
  split at eq
  · cases eq; rw [hd.int] at rx; rw [he.int] at ry
    exact op_add pins s σ0 H _ _ v u Q I rx ry ⟨_, _, rfl, rfl, same_of ok q rInt⟩
  · split at eq
    · cases eq; rw [hd.str] at rx; rw [he.str] at ry
      exact op_add_str pins s σ0 H _ _ v u Q I rx ry ⟨_, _, rfl, rfl, by assumption, same_of ok q rStr⟩
    · cases eq
  · split at eq
    · cases eq
      obtain ⟨a, vs, rfl, h1, r1⟩ := hd.lst rl.sl
      obtain ⟨b, ws, rfl, h2, r2⟩ := he.lst rl.sl
      exact op_cat pins s σ0 H _ _ v u Q I rx ry ⟨_, _, _, _, rfl, rfl, h1, h2, by rw [← r1.length, ← r2.length]; assumption, newL ok q (r1.append r2)⟩
    · cases eq
  · split at eq
    · cases eq
      obtain ⟨a, vs, rfl, h1, r1⟩ := hd.tup
      obtain ⟨b, ws, rfl, h2, r2⟩ := he.tup
      refine op_catA pins s σ0 H _ _ v u Q I rx ry ⟨_, _, _, _, rfl, rfl, h1, h2, by rw [← r1.length, ← r2.length]; assumption, fun e => ?_, fun _ e => ?_, fun _ _ => newT ok q (r1.append r2)⟩
      · have e1 := List.eq_nil_of_length_eq_zero (r1.length.trans (by rw [e]; rfl))
        rw [e1, List.nil_append] at q
        exact same_of ok q (by simp only [Rep]; exact ⟨b, ws, rfl, h2, r2⟩)
      · have e1 := List.eq_nil_of_length_eq_zero (r2.length.trans (by rw [e]; rfl))
        rw [e1, List.append_nil] at q
        exact same_of ok q (by simp only [Rep]; exact ⟨a, vs, rfl, h1, r1⟩)
    · cases eq
  · cases eq; rw [hd.int] at rx; rw [he.int] at ry
    exact op_sub pins s σ0 H _ _ v u Q I rx ry ⟨_, _, rfl, rfl, same_of ok q rInt⟩
  · split at eq
    · cases eq; rw [hd.int] at rx; rw [he.int] at ry
      exact op_mulW pins s σ0 H _ _ v u Q I rx ry ⟨_, _, rfl, rfl, by assumption, same_of ok q rInt⟩
    · cases eq
  · split at eq
    · rename_i hc
      cases eq; rw [he.int] at ry
      obtain ⟨a, vs, rfl, h1, r1⟩ := hd.lst rl.sl
      have hl := r1.length
      refine op_rep pins s σ0 H _ _ v u Q I rx ry ⟨_, _, _, rfl, rfl, h1, by omega, by omega, ?_, newL ok q (r1.rep _)⟩
      rw [sizeLine_eq]
      exact Nat.le_trans (Nat.mul_le_mul (show _ ≤ 1000 by omega) (show _ ≤ 1000 by omega)) (by decide)
    · cases eq
  · split at eq
    · rename_i hc
      cases eq; rw [he.int] at ry
      obtain ⟨a, vs, rfl, h1, r1⟩ := hd.tup
      have hl := r1.length
      exact op_repT pins s σ0 H _ _ v u Q I rx ry ⟨_, _, _, rfl, rfl, h1, fun e => hc.1 (by subst e; exact List.eq_nil_of_length_eq_zero hl), hc.2.1, hc.2.2.1, by omega, newT ok q (r1.rep _)⟩
    · cases eq
  · split at eq
    · cases eq; rw [hd.int] at rx; rw [he.int] at ry
      exact op_fdivW pins s σ0 H _ _ v u Q I rx ry ⟨_, _, rfl, rfl, by assumption, same_of ok q rInt⟩
    · cases eq
  · split at eq
    · cases eq; rw [hd.int] at rx; rw [he.int] at ry
      exact op_mod pins s σ0 H _ _ v u Q I rx ry ⟨_, _, rfl, rfl, by assumption, same_of ok q rInt⟩
    · cases eq
  · split at eq
    · cases eq; rw [hd.int] at rx; rw [he.int] at ry
      exact op_pow pins s σ0 H _ _ v u Q I rx ry ⟨_, _, rfl, rfl, by assumption, same_of ok q rInt⟩
    · cases eq
  · cases eq

/-- in, by data: at which list or tuple, what is looked for -/
theorem in_ok {k : Nat} (hr : Room k X.A) {pins : List (Addr × Obj)} {s : Shared} {σ0 : St} {H : Hp} {x y : V} {v u : Value} {Q : VK} (I : Inv X pins σ0 H s) (rx : RelV x v) (ry : RelV y u)
    {Z : Ent} {G : Gh} {μ : Sto} {ρ : Env} {hv : List (D × V)} {σ : St} {d e : D} {b : Bool} (rl : Rl X.K Ca Z G μ ρ hv σ H) (hd : Hd X.K G H ρ σ d x) (he : Hd X.K G H ρ σ e y) (hb : inD d e = some b) :
    (Q (.bl b) H → wpAny (model X.prog X.w) X.A (compareOp .In v u) (EP X pins σ0 Q) X.xe s) ∧ (Q (.bl (!b)) H → wpAny (model X.prog X.w) X.A (compareOp .NotIn v u) (EP X pins σ0 Q) X.xe s) := by
  have hu : X.A.units + 65 < cLine := by have := hr.un; omega
  have flat : ∀ {z : V}, Hd X.K G H ρ σ d z → isFlat d = true → z = dV d ∧ flatV z = true := fun {z} h f => by
    rcases h with h | ⟨_, _, _, _, e⟩
    · exact h.flat f
    · rw [e] at f; cases f
  unfold inD at hb
  split at hb
  · split at hb
    · cases hb; rw [hd.str] at rx; rw [he.str] at ry
      exact ⟨fun q => op_in_str pins s σ0 H _ _ v u Q I rx ry ⟨_, _, rfl, rfl, q⟩, fun q => op_notin_str pins s σ0 H _ _ v u Q I rx ry ⟨_, _, rfl, rfl, q⟩⟩
    · cases hb
  · split at hb
    · rename_i hc
      cases hb
      obtain ⟨a, vs, rfl, h2, r2⟩ := he.lst rl.sl
      obtain ⟨e1, f1⟩ := flat hd hc.1
      obtain ⟨e2, f2⟩ := r2.flat hc.2
      subst e1; subst e2
      have hi := inV_flat hc.1 hc.2
      exact ⟨fun q => op_in_seq pins s σ0 H _ _ v u Q I rx ry ⟨_, _, rfl, .inl (.inl (.inl h2)), f1, f2, by rw [hi]; exact q⟩, fun q => op_notIn_seq pins s σ0 H _ _ v u Q I rx ry ⟨_, _, rfl, .inl (.inl (.inl h2)), f1, f2, by rw [hi]; exact q⟩⟩
    · split at hb
      · rename_i hc
        cases hb
        have key : ∀ (l : List D), (pys l).any (fun z => PyData.eqv z d.py) = l.any fun z => eqD z d := fun l => by
          induction l with
          | nil => rfl
          | cons a l ih => simp only [pys, List.any_cons, ih]; rfl
        have hd2 := hd.dp rl.sl hc.1
        have he2 := he.dp rl.sl hc.2
        have hs := hc.2
        unfold shp at hs
        simp only [D.py] at he2 hs
        exact ⟨fun q => op_inD hu pins s σ0 H _ _ v u Q I rx ry ⟨_, _, hd2, he2, hc.1, hs, by rw [key]; exact q⟩, fun q => op_notInD hu pins s σ0 H _ _ v u Q I rx ry ⟨_, _, hd2, he2, hc.1, hs, by rw [key]; exact q⟩⟩
      · cases hb
  · split at hb
    · rename_i hc
      cases hb
      obtain ⟨a, vs, rfl, h2, r2⟩ := he.tup
      obtain ⟨e1, f1⟩ := flat hd hc.1
      obtain ⟨e2, f2⟩ := r2.flat hc.2
      subst e1; subst e2
      have hi := inV_flat hc.1 hc.2
      exact ⟨fun q => op_in_seq pins s σ0 H _ _ v u Q I rx ry ⟨_, _, rfl, .inr h2, f1, f2, by rw [hi]; exact q⟩, fun q => op_notIn_seq pins s σ0 H _ _ v u Q I rx ry ⟨_, _, rfl, .inr h2, f1, f2, by rw [hi]; exact q⟩⟩
    · cases hb
  · cases hb
theorem cmp_ok {k : Nat} (hr : Room k X.A) (o : COp) : OpR X (compareOp o.op) (rOp X.K Ca W fun a b => oM ((cmpD o a b).map fun z => .v (.bl z))) := by
  intro pins s σ0 H x y v u Q I rx ry h
  obtain ⟨Z, G, μ, ρ, hv, σ, d, e, rl, hd, he, q0⟩ := h
  obtain ⟨b, eq, q⟩ : ∃ b, cmpD o d e = some b ∧ Q (.bl b) H := by
    obtain ⟨rv, e1, q1⟩ := q0.oM
    obtain ⟨b, e2, e3⟩ := Option.map_eq_some_iff.mp e1
    rw [← e3] at q1
    exact ⟨b, e2, same_of rl.ok q1 rBl⟩
  unfold cmpD at eq
  split at eq
  · split at eq
    · rename_i hc
      cases eq
      exact op_eqD hr.units pins s σ0 H _ _ v u Q I rx ry ⟨_, _, hd.dp rl.sl hc.1, he.dp rl.sl hc.2, hc.1, hc.2, q⟩
    · cases eq
  · split at eq
    · rename_i hc
      cases eq
      exact op_neD hr.units pins s σ0 H _ _ v u Q I rx ry ⟨_, _, hd.dp rl.sl hc.1, he.dp rl.sl hc.2, hc.1, hc.2, q⟩
    · cases eq
  · cases eq; rw [hd.int] at rx; rw [he.int] at ry
    exact op_lt pins s σ0 H _ _ v u Q I rx ry ⟨_, _, rfl, rfl, q⟩
  · cases eq; rw [hd.int] at rx; rw [he.int] at ry
    exact op_le pins s σ0 H _ _ v u Q I rx ry ⟨_, _, rfl, rfl, q⟩
  · cases eq; rw [hd.int] at rx; rw [he.int] at ry
    exact op_gt pins s σ0 H _ _ v u Q I rx ry ⟨_, _, rfl, rfl, q⟩
  · cases eq; rw [hd.int] at rx; rw [he.int] at ry
    exact op_ge pins s σ0 H _ _ v u Q I rx ry ⟨_, _, rfl, rfl, q⟩
  · exact (in_ok hr I rx ry rl hd he eq).1 q
  · obtain ⟨b', e1, e2⟩ := Option.map_eq_some_iff.mp eq
    rw [← e2] at q
    exact (in_ok hr I rx ry rl hd he e1).2 q
  · rw [he.non] at ry
    refine op_isN pins s σ0 H _ _ v u Q I rx ry ⟨rfl, ?_⟩
    have : decide (x = .non) = b := by
      cases d with
      | non => rw [hd.non]; simpa using eq
      | bl z => rw [hd.bl]; simpa using eq
      | int z => rw [hd.int]; simpa using eq
      | str z => rw [hd.str]; simpa using eq
      | tup z => obtain ⟨a, vs, rfl, _⟩ := hd.tup; simpa using eq
      | lst z => obtain ⟨a, vs, rfl, _⟩ := hd.lst rl.sl; simpa using eq
      | ref z => obtain ⟨a, rfl, _⟩ := hd.ref; simpa using eq
      | src z => obtain ⟨a, rfl, _⟩ := hd.src; simpa using eq
    rw [this]; exact q
  · rw [he.non] at ry
    refine op_notN pins s σ0 H _ _ v u Q I rx ry ⟨rfl, ?_⟩
    have : (!decide (x = .non)) = b := by
      cases d with
      | non => rw [hd.non]; simpa using eq
      | bl z => rw [hd.bl]; simpa using eq
      | int z => rw [hd.int]; simpa using eq
      | str z => rw [hd.str]; simpa using eq
      | tup z => obtain ⟨a, vs, rfl, _⟩ := hd.tup; simpa using eq
      | lst z => obtain ⟨a, vs, rfl, _⟩ := hd.lst rl.sl; simpa using eq
      | ref z => obtain ⟨a, rfl, _⟩ := hd.ref; simpa using eq
      | src z => obtain ⟨a, rfl, _⟩ := hd.src; simpa using eq
    rw [this]; exact q
  · cases eq
/-- a value's truth -/
theorem tru_of {Z : Ent} {G : Gh} {μ : Sto} {ρ : Env} {hv : List (D × V)} {σ : St} {H : Hp} {K : PySem.W.Frag} {d : D} {x : V} {b : Bool} (rl : Rl K Ca Z G μ ρ hv σ H) (hd : Hd K G H ρ σ d x) (e : truD d = some b) : TruV K x H b := by
  have emp : ∀ {ds : List D} {vs : List V}, Reps K G H ds vs → (!ds.isEmpty) = !vs.isEmpty := fun {ds vs} r => by
    have := r.length
    cases ds <;> cases vs <;> first | rfl | cases this
  cases d with
  | non => rw [hd.non]; cases e; rfl
  | bl z => rw [hd.bl]; cases e; rfl
  | int z => rw [hd.int]; cases e; rfl
  | str z =>
    rw [hd.str]
    have e : (if z.length ≤ sizeLine then some ((z.length : Int) != 0) else none) = some b := e
    split at e
    · cases e; exact ⟨by assumption, rfl⟩
    · cases e
  | tup z => obtain ⟨a, vs, rfl, h, r⟩ := hd.tup; cases e; exact .inr (.inl ⟨vs, h, emp r⟩)
  | lst z => obtain ⟨a, vs, rfl, h, r⟩ := hd.lst rl.sl; cases e; exact .inl ⟨vs, .inl (.inl h), emp r⟩
  | ref z => cases e
  | src z => cases e
end
end J
/-! items, slices, built-in functions, methods by values. -/
namespace J
open PySem L2 PySem.Spec PyProof.Rows
section
variable {K : PySem.W.Frag} {Ca : Str → Addr} {W : WX} {Z : Ent} {G G' : Gh} {μ : Sto} {ρ : Env} {hv : List (D × V)} {σ : St} {H H' : Hp} {Q : VK}
theorem KvR.any : ∀ {ps : List (Key × D)} {vs : List (Key × V)} (k : Key), KvR K G H ps vs → (vs.any fun p => decide (p.1 = k)) = ps.any fun p => decide (p.1 = k)
  | [], _, _, h => by rw [h]; rfl
  | p :: ps, _, k, ⟨v, r, e, _, h⟩ => by rw [e, List.any_cons, List.any_cons, KvR.any k h]
theorem KvR.map {d : D} {v : V} (k : Key) (hd : Rep K G H d v) : ∀ {ps : List (Key × D)} {vs : List (Key × V)}, KvR K G H ps vs → KvR K G H (ps.map fun p => if p.1 = k then (p.1, d) else p) (vs.map fun p => if p.1 = k then (p.1, v) else p)
  | [], _, h => by rw [h]; rfl
  | p :: ps, _, ⟨w, r, e, h1, h⟩ => by
    rw [e, List.map_cons, List.map_cons]
    by_cases c : p.1 = k
    · rw [if_pos c, if_pos c]; exact ⟨v, _, rfl, hd, KvR.map k hd h⟩
    · rw [if_neg c, if_neg c]; exact ⟨w, _, rfl, h1, KvR.map k hd h⟩
theorem KvR.snoc {d : D} {v : V} (k : Key) (hd : Rep K G H d v) : ∀ {ps : List (Key × D)} {vs : List (Key × V)}, KvR K G H ps vs → KvR K G H (ps ++ [(k, d)]) (vs ++ [(k, v)])
  | [], _, h => by rw [h]; exact ⟨v, [], rfl, hd, rfl⟩
  | p :: ps, _, ⟨w, r, e, h1, h⟩ => by rw [e]; exact ⟨w, _, rfl, h1, KvR.snoc k hd h⟩
theorem KvR.put {d : D} {v : V} (k : Key) {ps : List (Key × D)} {vs : List (Key × V)} (h : KvR K G H ps vs) (hd : Rep K G H d v) : KvR K G H (setK ps k d) (putK vs k v) := by
  unfold setK putK
  rw [h.any]
  split
  · exact h.map k hd
  · exact h.snoc k hd
theorem KvR.find : ∀ {ps : List (Key × D)} {vs : List (Key × V)} (k : Key), KvR K G H ps vs → (∀ d, findK ps k = some d → ∃ v, valV vs k = some v ∧ Rep K G H d v) ∧ (findK ps k = none → valV vs k = none)
  | [], _, k, h => by rw [h]; exact ⟨fun d e => (by cases e), fun _ => rfl⟩
  | p :: ps, _, k, ⟨v, r, e, h1, h⟩ => by
    have ih := KvR.find k h
    by_cases c : p.1 = k
    · have e1 : findK (p :: ps) k = some p.2 := by simp [findK, List.find?_cons, c]
      rw [e, valV_pos (p := (p.1, v)) c, e1]
      exact ⟨fun d q => by cases q; exact ⟨v, rfl, h1⟩, fun q => by cases q⟩
    · have e1 : findK (p :: ps) k = findK ps k := by simp [findK, List.find?_cons, c]
      rw [e, valV_neg (p := (p.1, v)) c, e1]
      exact ih
theorem KvR.length : ∀ {ps : List (Key × D)} {vs : List (Key × V)}, KvR K G H ps vs → ps.length = vs.length
  | [], _, h => by rw [h]; rfl
  | p :: ps, _, ⟨v, r, e, _, h⟩ => by rw [e, List.length_cons, List.length_cons, KvR.length h]
theorem Hd.key {d : D} {k : Key} {x : V} (h : Hd K G H ρ σ d x) (e : keyD d = some k) : x = kV k := by
  cases d <;> first | cases e
  · exact h.int
  · exact h.str
theorem Rep.key {d : D} {k : Key} {x : V} (h : Rep K G H d x) (e : keyD d = some k) : x = kV k := Hd.key (ρ := []) (σ := []) (.inl h) e
/-- the cell of a reference -/
theorem Rl.cellAt (rl : Rl K Ca Z G μ ρ hv σ H) {n : Nat} {c : Cell} {x : V} (h : Hd K G H ρ σ (.ref n) x) (e : μ[n]? = some c) : ∃ a, x = .ref a ∧ G.φ[n]? = some a ∧ CellR K Ca G H c a := by
  obtain ⟨a, h1, h2⟩ := h.ref
  exact ⟨a, h1, h2, rl.ok.cell n c a e h2⟩
theorem SqT.shared {a : Addr} {vs : List V} {ds : List D} (h : SqT K H a vs) (r : Reps K G H ds vs) : Rep K G H (.tup ds) (.ref a) := by simp only [Rep]; exact ⟨a, vs, rfl, h, r⟩
theorem atI_map {α β : Type} (f : α → β) {xs : List α} {i : Int} {a : α} (h : atI xs i = some a) : atI (xs.map f) i = some (f a) := by
  unfold atI at h ⊢
  rw [List.length_map]
  cases e : ixN xs.length i with
  | none => rw [e] at h; cases h
  | some j =>
    rw [e] at h
    have h : xs[j]? = some a := h
    show (xs.map f)[j]? = some (f a)
    rw [List.getElem?_map, h]; rfl
theorem Reps.atI {ds : List D} {vs : List V} {i : Int} {d : D} (r : Reps K G H ds vs) (h : L2.atI ds i = some d) : ∃ v, L2.atI vs i = some v ∧ Rep K G H d v := by
  unfold L2.atI at h ⊢
  rw [← r.length]
  cases e : ixN ds.length i with
  | none => rw [e] at h; cases h
  | some j =>
    rw [e] at h
    have h : ds[j]? = some d := h
    obtain ⟨v, h1, h2⟩ := r.get h
    exact ⟨v, h1, h2⟩
end
section
variable {X : Cx} {Ca : Str → Addr} {W : WX}
theorem ix_dct (hu : X.A.units + 1 < cLine) : IxR X (fun x y H Q => ∃ a v, x = .ref a ∧ DGet H a y (some v) ∧ Q v H) := by
  intro value slice pins s σ H x y v u Q I rx ry h hs
  obtain ⟨a, z, rfl, g, q⟩ := h
  cases rx
  exact tail_any (dict_typeIs I g) PySem.F.slot_dict_getitem.lookup (d_getItem hu I g ry fun w' s3 I3 rw' => ⟨z, H, I3, rw', q⟩) hs
theorem idx_ok {k : Nat} (hr : Room k X.A) : IxR X (rOp X.K Ca W idxM) := by
  intro value slice pins s σ0 H x y v u Q I rx ry h hs
  obtain ⟨Z, G, μ, ρ, hv, σ, d, e, rl, hd, he, q⟩ := h
  have ok := rl.ok
  have hu : X.A.units + 1 < cLine := by have := hr.un; omega
  have fin : ∀ {r : D} {m : M RV} {z : V}, m μ = some (.ok (.v r) μ) → At X.K Ca W (RvR X.K ρ σ) σ G μ H m Q → Rep X.K G H r z → Q z H := fun {r m z} e q hz => by
    unfold At at q
    rw [e] at q
    exact q G z H (Ext.refl _ _ _) ok hz
  have plain : ∀ {d : D}, Hd X.K G H ρ σ d x → (∀ r : D, idxD d e = some r → ∀ z, Rep X.K G H r z → Q z H) → (∃ r, idxD d e = some r) → wpAny (model X.prog X.w) X.A (subscriptTail value slice v u) (EP X pins σ0 Q) X.xe s := fun {d} hd f0 ⟨r, er⟩ => by
    have f := f0 r er
    clear f0
    unfold idxD at er
    split at er
    · rw [he.int] at ry
      split at er
      · obtain ⟨a, vs, rfl, h1, r1⟩ := hd.lst rl.sl
        obtain ⟨z, h2, h3⟩ := r1.atI er
        exact ix_list value slice pins s σ0 H _ _ v u Q I rx ry ⟨_, _, _, z, rfl, rfl, .inl (.inl h1), h2, f z h3⟩ hs
      · obtain ⟨a, vs, rfl, h1, r1⟩ := hd.tup
        obtain ⟨z, h2, h3⟩ := r1.atI er
        exact ix_tup value slice pins s σ0 H _ _ v u Q I rx ry ⟨_, _, _, z, rfl, rfl, h1, h2, f z h3⟩ hs
      · split at er
        · obtain ⟨c, h2, h3⟩ := Option.map_eq_some_iff.mp er
          rw [hd.str] at rx
          exact ix_str value slice pins s σ0 H _ _ v u Q I rx ry ⟨_, _, c, rfl, rfl, by assumption, h2, f _ (by rw [← h3]; exact rStr)⟩ hs
        · cases er
      · cases er
    · cases er
  cases d with
  | ref n =>
    cases em : μ[n]? with
    | none => unfold At idxM at q; simp only [em] at q
    | some c =>
      obtain ⟨a, rfl, hn, hc⟩ := rl.cellAt hd em
      cases c with
      | dead => unfold At idxM at q; simp only [em] at q
      | ins _ _ => unfold At idxM at q; simp only [em] at q
      | dct kvs =>
        obtain ⟨vs, h1, h2⟩ := hc
        cases ek : keyD e with
        | none => unfold At idxM at q; simp [em, ek] at q
        | some k =>
          cases ef : findK kvs k with
          | none => unfold At idxM at q; simp [em, ek, ef] at q
          | some d =>
            obtain ⟨z, h3, h4⟩ := (h2.find k).1 d ef
            rw [he.key ek] at ry
            exact ix_dct hu value slice pins s σ0 H _ _ v u Q I rx ry ⟨a, z, rfl, by rw [← h3]; exact DGet.k h1, fin (r := d) (by simp [idxM, em, ek, ef]) q h4⟩ hs
      | lst ds =>
        obtain ⟨vs, h1, r1⟩ := hc
        cases er : idxD (.lst ds) e with
        | none => unfold At idxM at q; simp [em, er] at q
        | some r =>
          cases e with
          | int i =>
            rw [he.int] at ry
            obtain ⟨z, h2, h3⟩ := r1.atI er
            exact ix_list value slice pins s σ0 H _ _ v u Q I rx ry ⟨_, _, _, z, rfl, rfl, .inl (.inl h1), h2, fin (r := r) (by simp [idxM, em, er]) q h3⟩ hs
          | _ => cases er
  | non => exact False.elim (by unfold At idxM at q; cases e <;> exact q)
  | bl _ => exact False.elim (by unfold At idxM at q; cases e <;> exact q)
  | int _ => exact False.elim (by unfold At idxM at q; cases e <;> exact q)
  | src _ => exact False.elim (by unfold At idxM at q; cases e <;> exact q)
  | str z =>
    refine plain hd (fun r er w hw => fin (r := r) (by simp only [idxM, er, Option.map_some]) q hw) ?_
    cases er : idxD (.str z) e with
    | none => unfold At idxM at q; simp only [er, Option.map_none] at q
    | some r => exact ⟨r, rfl⟩
  | tup z =>
    refine plain hd (fun r er w hw => fin (r := r) (by simp only [idxM, er, Option.map_some]) q hw) ?_
    cases er : idxD (.tup z) e with
    | none => unfold At idxM at q; simp only [er, Option.map_none] at q
    | some r => exact ⟨r, rfl⟩
  | lst z =>
    refine plain hd (fun r er w hw => fin (r := r) (by simp only [idxM, er, Option.map_some]) q hw) ?_
    cases er : idxD (.lst z) e with
    | none => unfold At idxM at q; simp only [er, Option.map_none] at q
    | some r => exact ⟨r, rfl⟩

/-! ### slices -/
theorem Reps.cut {K : PySem.W.Frag} {G : Gh} {H : Hp} {ds : List D} {vs : List V} (r : Reps K G H ds vs) (lo hi : Option Int) : Reps K G H (cutD ds lo hi) (cutV vs lo hi) := by
  unfold cutD cutV
  rw [← r.length]
  exact (r.drop _).take _
theorem cutD_whole {α : Type} {xs : List α} {lo hi : Option Int} (h : HT.sIx xs.length 0 lo = 0 ∧ HT.sIx xs.length xs.length hi = xs.length) : cutD xs lo hi = xs := by
  unfold cutD
  rw [h.1, h.2, List.drop_zero, Nat.sub_zero, List.take_length]
def rSc (K : PySem.W.Frag) (Ca : Str → Addr) (W : WX) : V → Option Int → Option Int → Hp → VK → Prop := fun x lo hi H Q =>
  ∃ Z G μ ρ hv σ d, Rl K Ca Z G μ ρ hv σ H ∧ Hd K G H ρ σ d x ∧ At K Ca W (RvR K ρ σ) σ G μ H (oM (slcD d lo hi)) Q
theorem slc_ok : L2.SlR X (rSc X.K Ca W) := by
  intro pins s σ0 H x v vl vu lo hi sl Q I rx hs pl pu h
  obtain ⟨Z, G, μ, ρ, hv, σ, d, rl, hd, q⟩ := h
  obtain ⟨rv, eq, q⟩ := q.oM
  have ok := rl.ok
  cases d with
  | lst ds =>
    cases eq
    obtain ⟨a, vs, rfl, h1, r1⟩ := hd.lst rl.sl
    exact sl_list pins s σ0 H _ v vl vu lo hi sl Q I rx hs pl pu ⟨a, vs, rfl, .inl (.inl h1), newL ok q (r1.cut lo hi)⟩
  | src ns =>
    cases eq
    obtain ⟨a, rfl, h1⟩ := hd.src
    exact sl_list pins s σ0 H _ v vl vu lo hi sl Q I rx hs pl pu ⟨a, _, rfl, h1, newL ok q ((Reps.ints ns).cut lo hi)⟩
  | tup ds =>
    cases eq
    obtain ⟨a, vs, rfl, h1, r1⟩ := hd.tup
    refine sl_tupA pins s σ0 H _ v vl vu lo hi sl Q I rx hs pl pu ⟨a, vs, rfl, h1, fun hw => ?_, fun _ => newT ok q (r1.cut lo hi)⟩
    rw [← r1.length] at hw
    rw [cutD_whole hw] at q
    exact same_of ok q (SqT.shared h1 r1)
  | str z =>
    have eq : (if z.length ≤ sizeLine then some (RV.v (.str (cutS z lo hi))) else none) = some rv := eq
    split at eq
    · cases eq
      rw [hd.str] at rx
      exact sl_str pins s σ0 H _ v vl vu lo hi sl Q I rx hs pl pu ⟨z, rfl, by assumption, same_of ok q rStr⟩
    · cases eq
  | _ => cases eq
end
end J
/-! built-in functions and methods by values. -/
namespace J
open PySem L2 PySem.Spec PyProof.Rows
section
variable {K : PySem.W.Frag} {Ca : Str → Addr} {W : WX} {Z : Ent} {G G' : Gh} {μ : Sto} {ρ : Env} {hv : List (D × V)} {σ : St} {H H' : Hp} {Q : VK}
theorem Hds.nil {xs : List V} (h : Hds K G H ρ σ [] xs) : xs = [] := h
theorem Hds.one {d : D} {xs : List V} (h : Hds K G H ρ σ [d] xs) : ∃ x, xs = [x] ∧ Hd K G H ρ σ d x := by
  obtain ⟨v, r, rfl, h1, h2⟩ := h
  exact ⟨v, by rw [Hds.nil h2], h1⟩
theorem Hds.two {d e : D} {xs : List V} (h : Hds K G H ρ σ [d, e] xs) : ∃ x y, xs = [x, y] ∧ Hd K G H ρ σ d x ∧ Hd K G H ρ σ e y := by
  obtain ⟨v, r, rfl, h1, h2⟩ := h
  obtain ⟨y, rfl, h3⟩ := Hds.one h2
  exact ⟨v, y, rfl, h1, h3⟩
theorem maxI_spec : ∀ {ns : List Int}, 0 < ns.length → maxI ns ∈ ns ∧ ∀ y ∈ ns, y ≤ maxI ns
  | [a], _ => ⟨List.mem_cons_self, fun y h => by rcases List.mem_cons.mp h with rfl | h; exact Int.le_refl _; cases h⟩
  | a :: b :: r, _ => by
    obtain ⟨h1, h2⟩ := maxI_spec (ns := b :: r) (by simp)
    show max a (maxI (b :: r)) ∈ _ ∧ ∀ y ∈ a :: b :: r, y ≤ max a (maxI (b :: r))
    refine ⟨?_, fun y hy => ?_⟩
    · by_cases h : a ≤ maxI (b :: r)
      · rw [Int.max_eq_right h]; exact List.mem_cons_of_mem _ h1
      · rw [Int.max_eq_left (by omega)]; exact List.mem_cons_self
    · rcases List.mem_cons.mp hy with rfl | hy
      · exact Int.le_max_left _ _
      · exact Int.le_trans (h2 y hy) (Int.le_max_right _ _)
theorem minI_spec : ∀ {ns : List Int}, 0 < ns.length → minI ns ∈ ns ∧ ∀ y ∈ ns, minI ns ≤ y
  | [a], _ => ⟨List.mem_cons_self, fun y h => by rcases List.mem_cons.mp h with rfl | h; exact Int.le_refl _; cases h⟩
  | a :: b :: r, _ => by
    obtain ⟨h1, h2⟩ := minI_spec (ns := b :: r) (by simp)
    show min a (minI (b :: r)) ∈ _ ∧ ∀ y ∈ a :: b :: r, min a (minI (b :: r)) ≤ y
    refine ⟨?_, fun y hy => ?_⟩
    · by_cases h : a ≤ minI (b :: r)
      · rw [Int.min_eq_left h]; exact List.mem_cons_self
      · rw [Int.min_eq_right (by omega)]; exact List.mem_cons_of_mem _ h1
    · rcases List.mem_cons.mp hy with rfl | hy
      · exact Int.min_le_left _ _
      · exact Int.le_trans (Int.min_le_right _ _) (h2 y hy)
end
def Blt.fn : Blt → Value
  | .len => .builtin "len" | .max2 => .builtin "max" | .min2 => .builtin "min" | .maxL => .builtin "max" | .minL => .builtin "min" | .sum => .builtin "sum" | .abs => .builtin "abs"
  | .int => .type "int" | .str => .type "str" | .list => .type "list" | .tuple => .type "tuple" | .all => .builtin "all" | .any => .builtin "any"
  | .isBool => .builtin "isinstance" | .isInt => .builtin "isinstance" | .isStr => .builtin "isinstance" | .isTuple => .builtin "isinstance" | .isList => .builtin "isinstance"
/-- the second argument of isinstance -/
def Blt.cls : Blt → Option String
  | .isBool => some "bool" | .isInt => some "int" | .isStr => some "str" | .isTuple => some "tuple" | .isList => some "list" | _ => none
section
variable {X : Cx} {Ca : Str → Addr} {W : WX}
/-- the type of a value by its data -/
def tyD : D → String
  | .non => "NoneType" | .bl _ => "bool" | .int _ => "int" | .str _ => "str" | .tup _ => "tuple" | .lst _ => "list" | .ref _ => "" | .src _ => "list"
theorem tyX_of {K : PySem.W.Frag} {Z : Ent} {G : Gh} {μ : Sto} {ρ : Env} {hv : List (D × V)} {σ : St} {H : Hp} {d : D} {x : V} (rl : Rl K Ca Z G μ ρ hv σ H) (hd : Hd K G H ρ σ d x) (n : ∀ k, d ≠ .ref k) : TyX K H x (.type (tyD d)) := by
  cases d with
  | non => rw [hd.non]; exact .base .non
  | bl b => rw [hd.bl]; exact .base (.bl b)
  | int b => rw [hd.int]; exact .base (.int b)
  | str b => rw [hd.str]; exact .base (.str b)
  | tup ds =>
    obtain ⟨a, vs, rfl, h1, r1⟩ := hd.tup
    rcases h1 with (h1 | ⟨o, h1⟩) | ⟨o, its, k, h1, h2, _⟩
    · exact .base (.tup h1)
    · exact .fTuple h1
    · exact .kTuple h1 h2
  | lst ds =>
    obtain ⟨a, vs, rfl, h1, r1⟩ := hd.lst rl.sl
    exact .base (.lst h1)
  | ref k => exact absurd rfl (n k)
  | src ns =>
    obtain ⟨a, rfl, h1⟩ := hd.src
    rcases h1 with (h1 | ⟨o, h1⟩) | ⟨o, its, k, h1, h2, _⟩
    · exact .base (.lst h1)
    · exact .base (.frz h1)
    · exact .kList h1 h2
theorem isi_ok {c : String} {f : D → Bool} (hf : ∀ d, (∀ k, d ≠ .ref k) → kitB (tyD d) c = some (f d)) : CallR X (.builtin "isinstance") (fun xs H Q => ∃ Z G μ ρ hv σ d x, xs = [x, .ty c] ∧ (∀ k, d ≠ .ref k) ∧ Rl X.K Ca Z G μ ρ hv σ H ∧ Hd X.K G H ρ σ d x ∧ At X.K Ca W (RvR X.K ρ σ) σ G μ H (M.pure (.v (.bl (f d)))) Q) := by
  intro pins s σ0 H xs us Q I r h
  obtain ⟨Z, G, μ, ρ, hv, σ, d, x, rfl, n, rl, hd, q⟩ := h
  exact call_isi pins s σ0 H _ us Q I r ⟨x, .ty c, .type (tyD d), .type c, f d, rfl, .ty c, tyX_of rl hd n, kit_ty (hf d n), same_of rl.ok q rBl⟩
theorem blt_ok (hc : X.calm = true) {b : Blt} (hb : b.cls = none) : CallR X b.fn (rCl X.K Ca W (bltM b)) := by
  intro pins s σ0 H xs us Q I r h
  obtain ⟨Z, G, μ, ρ, hv, σ, ds, rl, hds, q⟩ := h
  have ok := rl.ok
  -- len of a cell
  by_cases hr : b = .len ∧ ∃ n, ds = [.ref n]
  · obtain ⟨rfl, n, rfl⟩ := hr
    obtain ⟨x, rfl, hd⟩ := hds.one
    cases em : μ[n]? with
    | none => unfold At bltM at q; simp only [em] at q
    | some c =>
      obtain ⟨a, rfl, hn, hc⟩ := rl.cellAt hd em
      cases c with
      | lst ds =>
        obtain ⟨vs, h1, r1⟩ := hc
        unfold At bltM at q
        simp only [em] at q
        rw [r1.length] at q
        exact call_len pins s σ0 H _ us Q I r ⟨_, vs.length, rfl, .inl ⟨vs, .inl (.inl h1), rfl⟩, q G _ H (Ext.refl _ _ _) ok (rInt (K := X.K) (G := G) (H := H))⟩
      | _ => unfold At bltM at q; simp only [em] at q
  have q : At X.K Ca W (RvR X.K ρ σ) σ G μ H (oM (bltD b ds)) Q := by
    have e : bltM b ds μ = oM (bltD b ds) μ := by
      unfold bltM
      split
      · exact absurd ⟨rfl, _, rfl⟩ hr
      · rfl
    unfold At at q ⊢
    rw [e] at q
    exact q
  obtain ⟨rv, eq, q⟩ := q.oM
  unfold bltD at eq
  split at eq <;> first | cases hb | skip
  · obtain ⟨x, rfl, hd⟩ := hds.one; cases eq
    obtain ⟨a, vs, rfl, h1, r1⟩ := hd.lst rl.sl
    exact call_len pins s σ0 H _ us Q I r ⟨_, vs.length, rfl, .inl ⟨vs, .inl (.inl h1), rfl⟩, same_of ok q (by rw [r1.length]; exact rInt)⟩
  · obtain ⟨x, rfl, hd⟩ := hds.one; cases eq
    obtain ⟨a, vs, rfl, h1, r1⟩ := hd.tup
    exact call_len pins s σ0 H _ us Q I r ⟨_, vs.length, rfl, .inr ⟨vs, h1, rfl⟩, same_of ok q (by rw [r1.length]; exact rInt)⟩
  · obtain ⟨x, rfl, hd⟩ := hds.one; cases eq
    obtain ⟨a, rfl, h1⟩ := hd.src
    exact call_len pins s σ0 H _ us Q I r ⟨_, _, rfl, .inl ⟨_, h1, rfl⟩, same_of ok q (by rw [List.length_map]; exact rInt)⟩
  · obtain ⟨x, rfl, hd⟩ := hds.one
    split at eq
    · cases eq
      rw [hd.str] at r
      exact call_len pins s σ0 H _ us Q I r ⟨_, _, rfl, ⟨by assumption, rfl⟩, same_of ok q rInt⟩
    · cases eq
  · obtain ⟨x, y, rfl, hd, he⟩ := hds.two; cases eq
    rw [hd.int, he.int] at r
    exact call_max2 hc pins s σ0 H _ us Q I r ⟨_, _, rfl, same_of ok q rInt⟩
  · obtain ⟨x, y, rfl, hd, he⟩ := hds.two; cases eq
    rw [hd.int, he.int] at r
    exact call_min2 hc pins s σ0 H _ us Q I r ⟨_, _, rfl, same_of ok q rInt⟩
  · obtain ⟨x, rfl, hd⟩ := hds.one
    obtain ⟨ns, e1, e2⟩ := Option.bind_eq_some_iff.mp eq
    split at e2
    · rename_i hne
      cases e2
      obtain ⟨a, vs, rfl, h1, r1⟩ := hd.lst rl.sl
      rw [r1.ofInts e1] at h1
      obtain ⟨m1, m2⟩ := maxI_spec hne
      exact cr_max hc pins s σ0 H _ us Q I r ⟨_, ns, rfl, .inl (.inl h1), hne, fun m hm hle => same_of ok q (by rw [show maxI ns = m from Int.le_antisymm (hle _ m1) (m2 _ hm)]; exact rInt)⟩
    · cases e2
  · obtain ⟨x, rfl, hd⟩ := hds.one
    obtain ⟨ns, e1, e2⟩ := Option.bind_eq_some_iff.mp eq
    split at e2
    · rename_i hne
      cases e2
      obtain ⟨a, vs, rfl, h1, r1⟩ := hd.lst rl.sl
      rw [r1.ofInts e1] at h1
      obtain ⟨m1, m2⟩ := minI_spec hne
      exact cr_min hc pins s σ0 H _ us Q I r ⟨_, ns, rfl, .inl (.inl h1), hne, fun m hm hle => same_of ok q (by rw [show minI ns = m from Int.le_antisymm (m2 _ hm) (hle _ m1)]; exact rInt)⟩
    · cases e2
  · obtain ⟨x, rfl, hd⟩ := hds.one
    obtain ⟨ns, e1, e2⟩ := Option.map_eq_some_iff.mp eq
    cases e2
    obtain ⟨a, vs, rfl, h1, r1⟩ := hd.lst rl.sl
    rw [r1.ofInts e1] at h1
    exact cr_sum hc pins s σ0 H _ us Q I r ⟨_, ns, rfl, .inl (.inl h1), same_of ok q rInt⟩
  · obtain ⟨x, rfl, hd⟩ := hds.one; cases eq
    rw [hd.int] at r
    exact call_abs pins s σ0 H _ us Q I r ⟨_, rfl, same_of ok q rInt⟩
  · obtain ⟨x, rfl, hd⟩ := hds.one; cases eq
    rw [hd.int] at r
    exact call_int1 pins s σ0 H _ us Q I r (.inl ⟨_, rfl, same_of ok q rInt⟩)
  · obtain ⟨x, rfl, hd⟩ := hds.one; cases eq
    rw [hd.bl] at r
    exact call_int1 pins s σ0 H _ us Q I r (.inr ⟨_, rfl, same_of ok q rInt⟩)
  · obtain ⟨x, rfl, hd⟩ := hds.one
    split at eq
    · obtain ⟨n, e1, e2⟩ := Option.map_eq_some_iff.mp eq
      cases e2
      rw [hd.str] at r
      exact call_int_str pins s σ0 H _ us Q I r ⟨_, n, rfl, e1, by assumption, same_of ok q rInt⟩
    · cases eq
  · obtain ⟨x, rfl, hd⟩ := hds.one
    split at eq
    · cases eq
      rw [hd.int] at r
      exact call_str_int pins s σ0 H _ us Q I r ⟨_, rfl, by assumption, same_of ok q rStr⟩
    · cases eq
  · obtain ⟨x, rfl, hd⟩ := hds.one; cases eq
    obtain ⟨a, vs, rfl, h1, r1⟩ := hd.lst rl.sl
    exact call_list_of pins s σ0 H _ us Q I r ⟨a, vs, rfl, .inl (.inl (.inl h1)), newL ok q r1⟩
  · obtain ⟨x, rfl, hd⟩ := hds.one; cases eq
    obtain ⟨a, vs, rfl, h1, r1⟩ := hd.tup
    exact call_list_of pins s σ0 H _ us Q I r ⟨a, vs, rfl, .inr h1, newL ok q r1⟩
  · obtain ⟨x, rfl, hd⟩ := hds.one
    split at eq
    · rename_i hz
      cases eq
      rw [hd.str] at r
      exact call_list_txt hc pins s σ0 H _ us Q I r ⟨_, rfl, hz, newL ok q (Reps.signs _)⟩
    · cases eq
  · obtain ⟨x, rfl, hd⟩ := hds.one; cases eq
    obtain ⟨a, vs, rfl, h1, r1⟩ := hd.lst rl.sl
    exact call_tuple_of pins s σ0 H _ us Q I r ⟨a, vs, rfl, .inl ⟨.inl (.inl h1), newT ok q r1⟩⟩
  · obtain ⟨x, rfl, hd⟩ := hds.one; cases eq
    obtain ⟨a, vs, rfl, h1, r1⟩ := hd.tup
    exact call_tuple_of pins s σ0 H _ us Q I r ⟨a, vs, rfl, .inr ⟨h1, same_of ok q (SqT.shared h1 r1)⟩⟩
  · obtain ⟨x, rfl, hd⟩ := hds.one
    obtain ⟨ns, e1, e2⟩ := Option.map_eq_some_iff.mp eq
    cases e2
    obtain ⟨a, vs, rfl, h1, r1⟩ := hd.lst rl.sl
    rw [r1.ofBls e1] at h1
    exact cr_all hc pins s σ0 H _ us Q I r ⟨_, ns, rfl, .inl (.inl h1), same_of ok q rBl⟩
  · obtain ⟨x, rfl, hd⟩ := hds.one
    obtain ⟨ns, e1, e2⟩ := Option.map_eq_some_iff.mp eq
    cases e2
    obtain ⟨a, vs, rfl, h1, r1⟩ := hd.lst rl.sl
    rw [r1.ofBls e1] at h1
    exact cr_any hc pins s σ0 H _ us Q I r ⟨_, ns, rfl, .inl (.inl h1), same_of ok q rBl⟩
  · cases eq
theorem kitB_bool : ∀ d : D, (∀ k, d ≠ .ref k) → kitB (tyD d) "bool" = some (isBoolD d) := fun d n => by
  cases d <;> first | exact absurd rfl (n _) | (simp only [tyD, isBoolD, isIntD, isStrD, isTupleD, isListD]; decide +kernel)
theorem kitB_int : ∀ d : D, (∀ k, d ≠ .ref k) → kitB (tyD d) "int" = some (isIntD d) := fun d n => by
  cases d <;> first | exact absurd rfl (n _) | (simp only [tyD, isBoolD, isIntD, isStrD, isTupleD, isListD]; decide +kernel)
theorem kitB_str : ∀ d : D, (∀ k, d ≠ .ref k) → kitB (tyD d) "str" = some (isStrD d) := fun d n => by
  cases d <;> first | exact absurd rfl (n _) | (simp only [tyD, isBoolD, isIntD, isStrD, isTupleD, isListD]; decide +kernel)
theorem kitB_tuple : ∀ d : D, (∀ k, d ≠ .ref k) → kitB (tyD d) "tuple" = some (isTupleD d) := fun d n => by
  cases d <;> first | exact absurd rfl (n _) | (simp only [tyD, isBoolD, isIntD, isStrD, isTupleD, isListD]; decide +kernel)
theorem kitB_list : ∀ d : D, (∀ k, d ≠ .ref k) → kitB (tyD d) "list" = some (isListD d) := fun d n => by
  cases d <;> first | exact absurd rfl (n _) | (simp only [tyD, isBoolD, isIntD, isStrD, isTupleD, isListD]; decide +kernel)
end
end J
/-! expressions. -/
namespace J
open PySem L2 PySem.Spec PyProof.Rows
theorem M.bind_assoc {α β γ : Type} (m : M α) (f : α → M β) (h : β → M γ) : M.bind (M.bind m f) h = M.bind m fun a => M.bind (f a) h := by
  funext μ
  unfold M.bind
  cases m μ with
  | none => rfl
  | some r => cases r <;> rfl
theorem M.pure_bind {α β : Type} (a : α) (f : α → M β) : M.bind (M.pure a) f = f a := rfl
theorem oM_some {α : Type} (a : α) : oM (some a) = M.pure a := rfl
theorem oM_none {α : Type} : (oM none : M α) = stuck := rfl
theorem M.bind_pure {α : Type} (m : M α) : M.bind m M.pure = m := by
  funext μ
  unfold M.bind
  cases m μ with
  | none => rfl
  | some r => cases r <;> rfl
theorem M.bind_stuck {α β : Type} (f : α → M β) : M.bind stuck f = stuck := rfl
theorem M.ite_bind {α β : Type} (k : Bool) (a b : M α) (f : α → M β) : M.bind (if k = true then a else b) f = if k = true then M.bind a f else M.bind b f := by cases k <;> rfl
end J
namespace L2
open PySem PySem.Spec PyProof.Rows
theorem PE.weak {X : Cx} {e : Expr} {t t' : TE} (h : PE X e t) (w : ∀ σ H Q, t' σ H Q → t σ H Q) : PE X e t' := ⟨fun pins s σ H Q I q => h.run pins s σ H Q I (w σ H Q q)⟩
theorem PT.weak {X : Cx} {e : Expr} {t t' : TT} (h : PT X e t) (w : ∀ σ H Q, t' σ H Q → t σ H Q) : PT X e t' := ⟨fun pins s σ H Q I q => h.run pins s σ H Q I (w σ H Q q)⟩
theorem PW.weak {X : Cx} {e : Expr} {t t' : TT} (h : PW X e t) (w : ∀ σ H Q, t' σ H Q → t σ H Q) : PW X e t' := ⟨fun wh pins s σ H Q I q => h.run wh pins s σ H Q I (w σ H Q q)⟩
theorem PA.weak {X : Cx} {e : List Expr} {t t' : TA} (h : PA X e t) (w : ∀ σ H Q, t' σ H Q → t σ H Q) : PA X e t' := ⟨fun p pins s σ H Q I q => h.run p pins s σ H Q I (w σ H Q q)⟩
theorem PO.weak {X : Cx} {e : Option Expr} {t t' : TO} (h : PO X e t) (w : ∀ σ H Q, t' σ H Q → t σ H Q) : PO X e t' := ⟨fun pins s σ H Q I q => h.run pins s σ H Q I (w σ H Q q)⟩

end L2
namespace J
open PySem L2 PySem.Spec PyProof.Rows
theorem At.shift {K : PySem.W.Frag} {Ca : Str → Addr} {W : WX} {σ : St} {G G3 : Gh} {μ : Sto} {H H3 : Hp} {α β : Type} {R : Gh → Hp → Hp → α → β → Prop} {m : M α} {Q : β → Hp → Prop} (h : At K Ca W R σ G μ H m Q) (mono : Mono R) (e3 : Ext G μ H G3 μ H3) : At K Ca W R σ G3 μ H3 m Q := by
  unfold At at h ⊢
  cases q : m μ with
  | none => rw [q] at h; exact h
  | some r =>
    rw [q] at h
    cases r with
    | exc x μ3 => exact fun G4 H4 c d e4 => h G4 H4 c d (e3.trans e4)
    | ok a μ3 => exact fun G4 w H4 e4 ok4 r4 => h G4 w H4 (e3.trans e4) ok4 (mono _ _ _ _ _ _ e3.old r4)
section
variable {X : Cx} {Ca : Str → Addr} {W : WX} {C : Calls} {g : List D} {a b c : Expr} {A B A2 : E} {pos : Pos}
theorem pe_bin (o : BOp) (ha : PE X a (tE X.K Ca W C g A)) (hb : PE X b (tE X.K Ca W C g B)) : PE X (.BinOp a o.op b pos) (tE X.K Ca W C g (.bin o A B)) :=
  (pe_op (bin_ok (X := X) (Ca := Ca) (W := W) o) ha hb).weak fun σ H Q ⟨Z, G, μ, ρ, hv, rl, h⟩ => by
    simp only [evalE] at h
    refine tE_then RvR.mono rl h fun x v G1 μ1 H1 _ rl1 _ _ h => ?_
    refine tE_then RvR.mono rl1 h fun y u G2 μ2 H2 _ rl2 _ _ h => ?_
    exact ⟨Z, G2, μ2, ρ, _, σ, x.d, y.d, rl2, rl2.hv _ (List.mem_cons_of_mem _ List.mem_cons_self), rl2.hv _ List.mem_cons_self, h⟩
theorem pe_neg (ha : PE X a (tE X.K Ca W C g A)) : PE X (.UnaryOp .USub a pos) (tE X.K Ca W C g (.neg A)) :=
  (pe_un un_neg ha).weak fun σ H Q ⟨Z, G, μ, ρ, hv, rl, h⟩ => by
    simp only [evalE] at h
    refine tE_then RvR.mono rl h fun x v G1 μ1 H1 _ rl1 _ _ h => ?_
    obtain ⟨r, e, h⟩ := h.oM
    obtain ⟨i, e1, rfl⟩ := Option.map_eq_some_iff.mp e
    have hx := rl1.hv _ List.mem_cons_self
    cases e2 : x.d with
    | int j => rw [e2] at e1 hx; cases e1; exact ⟨_, hx.int, same_of rl1.ok h rInt⟩
    | _ => rw [e2] at e1; cases e1
theorem pe_nott (ha : PE X a (tE X.K Ca W C g A)) : PE X (.UnaryOp .Not a pos) (tE X.K Ca W C g (.not A)) :=
  (pe_notT ha).weak fun σ H Q ⟨Z, G, μ, ρ, hv, rl, h⟩ => by
    simp only [evalE] at h
    refine tE_then RvR.mono rl h fun x v G1 μ1 H1 _ rl1 _ _ h => ?_
    obtain ⟨k, e, h⟩ := h.oMb
    exact ⟨k, tru_of rl1 (rl1.hv _ List.mem_cons_self) e, same_of rl1.ok h rBl⟩
theorem pe_cmpp {k : Nat} (hr : Room k X.A) (o : COp) (ha : PE X a (tE X.K Ca W C g A)) (hb : PE X b (tE X.K Ca W C g B)) (hm : behindInMarks o.op b = false) : PE X (.Compare a [o.op] [b] pos) (tE X.K Ca W C g (.cmp o A B)) :=
  (pe_cmpR (cmp_ok (Ca := Ca) (W := W) hr o) ha hb hm).weak fun σ H Q ⟨Z, G, μ, ρ, hv, rl, h⟩ => by
    simp only [evalE] at h
    refine tE_then RvR.mono rl h fun x v G1 μ1 H1 _ rl1 _ _ h => ?_
    refine tE_then RvR.mono rl1 h fun y u G2 μ2 H2 _ rl2 _ _ h => ?_
    exact ⟨Z, G2, μ2, ρ, _, σ, x.d, y.d, rl2, rl2.hv _ (List.mem_cons_of_mem _ List.mem_cons_self), rl2.hv _ List.mem_cons_self, h⟩
theorem oM_map {α β : Type} (o : Option α) (f : α → β) : oM (o.map f) = M.bind (oM o) fun a => M.pure (f a) := by cases o <;> rfl
theorem M.bind_pure' {α : Type} (m : M α) : (M.bind m fun a => M.pure a) = m := M.bind_pure m
theorem evalT_cmp (o : COp) (ρ : Env) : evalT C g (.cmp o A B) ρ = M.bind (evalE C g A ρ) fun x => M.bind (evalE C g B ρ) fun y => oM (cmpD o x.d y.d) := by
  unfold evalT
  simp only [evalE, M.bind_assoc, oM_map, M.pure_bind, RV.d, truD, oM_some, M.bind_pure']
theorem at_test {W' : WX} {G : Gh} {μ : Sto} {σ : St} {H : Hp} {K : PySem.W.Frag} {ρ : Env} {o : Option Bool} {Q : Bool → Hp → Prop} (h : At K Ca W' RB σ G μ H (oM o) Q) : At K Ca W' (RvR K ρ σ) σ G μ H (oM (o.map fun z => .v (.bl z))) fun x H1 => ∃ k, x = .bl k ∧ Q k H1 := by
  cases o with
  | none => exact h
  | some b => exact fun G1 v H1 e ok r => ⟨b, by simpa only [RvR, Rep] using r, h G1 b H1 e ok rfl⟩
theorem pt_cmpp {k : Nat} (hr : Room k X.A) (o : COp) (ha : PE X a (tE X.K Ca W C g A)) (hb : PE X b (tE X.K Ca W C g B)) (hm : behindInMarks o.op b = false) : PT X (.Compare a [o.op] [b] pos) (tT X.K Ca W C g (.cmp o A B)) :=
  (pt_cmpR (cmp_ok (Ca := Ca) (W := W) hr o) ha hb hm).weak fun σ H Q ⟨Z, G, μ, ρ, hv, rl, h⟩ => by
    rw [evalT_cmp] at h
    refine tE_then RB.mono rl h fun x v G1 μ1 H1 _ rl1 _ _ h => ?_
    refine tE_then RB.mono rl1 h fun y u G2 μ2 H2 _ rl2 _ _ h => ?_
    exact ⟨Z, G2, μ2, ρ, _, σ, x.d, y.d, rl2, rl2.hv _ (List.mem_cons_of_mem _ List.mem_cons_self), rl2.hv _ List.mem_cons_self, at_test h⟩
theorem evalE_chain (o p : COp) (ρ : Env) : evalE C g (.chain o p A B A2) ρ = M.bind (evalE C g A ρ) fun x => M.bind (evalE C g B ρ) fun y => M.bind (oM (cmpD o x.d y.d)) fun k =>
    if k = true then M.bind (evalE C g A2 ρ) fun z => oM ((cmpD p y.d z.d).map fun b => .v (.bl b)) else M.pure (.v (.bl false)) := by simp only [evalE]
theorem evalT_chain (o p : COp) (ρ : Env) : evalT C g (.chain o p A B A2) ρ = M.bind (evalE C g A ρ) fun x => M.bind (evalE C g B ρ) fun y => M.bind (oM (cmpD o x.d y.d)) fun k =>
    if k = true then M.bind (evalE C g A2 ρ) fun z => oM (cmpD p y.d z.d) else M.pure false := by
  unfold evalT
  rw [evalE_chain]
  simp only [M.bind_assoc, M.ite_bind, oM_map, M.pure_bind, RV.d, truD, oM_some, M.bind_pure']
theorem chain_core {o p : COp} {α β : Type} {R' : Gh → Hp → Hp → α → β → Prop} (mono : Mono R') {Q : β → Hp → Prop} {T : VK} {fin : Option Bool → M α} {σ : St} {H : Hp} {Z : Ent} {G : Gh} {μ : Sto} {ρ : Env} {hv : List (D × V)}
    (rl : Rl X.K Ca Z G μ ρ hv σ H) (h : At X.K Ca W R' σ G μ H (M.bind (evalE C g A ρ) fun x => M.bind (evalE C g B ρ) fun y => M.bind (oM (cmpD o x.d y.d)) fun k => if k = true then M.bind (evalE C g A2 ρ) fun z => fin (cmpD p y.d z.d) else fin (some false)) Q)
    (hf : ∀ G μ H ob, At X.K Ca W R' σ G μ H (fin ob) Q → At X.K Ca W (RvR X.K ρ σ) σ G μ H (oM (ob.map fun z => .v (.bl z))) T) :
    tChain (rOp X.K Ca W fun a b => oM ((cmpD o a b).map fun z => .v (.bl z))) (rOp X.K Ca W fun a b => oM ((cmpD p a b).map fun z => .v (.bl z))) (tE X.K Ca W C g A) (tE X.K Ca W C g B) (tE X.K Ca W C g A2) σ H T := by
  refine tE_then mono rl h fun x v G1 μ1 H1 _ rl1 _ _ h => ?_
  refine tE_then mono rl1 h fun y u G2 μ2 H2 _ rl2 _ _ h => ?_
  obtain ⟨k, e, h⟩ := h.oMb
  refine ⟨Z, G2, μ2, ρ, _, σ, x.d, y.d, rl2, rl2.hv _ (List.mem_cons_of_mem _ List.mem_cons_self), rl2.hv _ List.mem_cons_self, ?_⟩
  show At X.K Ca W (RvR X.K ρ σ) σ G2 μ2 H2 (oM ((cmpD o x.d y.d).map fun z => RV.v (D.bl z))) _
  rw [e]
  intro G3 z H3 e3 ok3 r3
  have ez : z = .bl k := by simpa only [RvR, Rep] using r3
  have rl3 := rl2.step e3 ok3
  refine ⟨k, ez, ?_⟩
  cases k with
  | false =>
    rw [if_neg Bool.false_ne_true] at h ⊢
    have h := hf _ _ _ _ h
    exact h G3 _ H3 e3 ok3 (rBl (K := X.K) (G := G3) (H := H3))
  | true =>
    rw [if_pos rfl] at h ⊢
    have h := h.shift mono e3
    refine tE_then mono rl3 h fun z w G4 μ4 H4 _ rl4 _ _ h => ?_
    exact ⟨Z, G4, μ4, ρ, _, σ, y.d, z.d, rl4, rl4.hv _ (List.mem_cons_of_mem _ List.mem_cons_self), rl4.hv _ List.mem_cons_self, hf _ _ _ _ h⟩
theorem pe_chainn {k : Nat} (hr : Room k X.A) (o p : COp) (ha : PE X a (tE X.K Ca W C g A)) (hb : PE X b (tE X.K Ca W C g B)) (hc : PE X c (tE X.K Ca W C g A2)) (hm : lastMarks [o.op, p.op] [b, c] = false) : PE X (.Compare a [o.op, p.op] [b, c] pos) (tE X.K Ca W C g (.chain o p A B A2)) :=
  (pe_chain (cmp_ok (Ca := Ca) (W := W) hr o) (cmp_ok (Ca := Ca) (W := W) hr p) ha hb hc hm).weak fun σ H Q ⟨Z, G, μ, ρ, hv, rl, h⟩ => by
    rw [evalE_chain] at h
    exact chain_core (fin := fun ob => oM (ob.map fun b => .v (.bl b))) RvR.mono rl h fun G μ H ob h => h
theorem pt_chainn {k : Nat} (hr : Room k X.A) (o p : COp) (ha : PE X a (tE X.K Ca W C g A)) (hb : PE X b (tE X.K Ca W C g B)) (hc : PE X c (tE X.K Ca W C g A2)) (hm : lastMarks [o.op, p.op] [b, c] = false) : PT X (.Compare a [o.op, p.op] [b, c] pos) (tT X.K Ca W C g (.chain o p A B A2)) :=
  (pt_chain (cmp_ok (Ca := Ca) (W := W) hr o) (cmp_ok (Ca := Ca) (W := W) hr p) ha hb hc hm).weak fun σ H Q ⟨Z, G, μ, ρ, hv, rl, h⟩ => by
    rw [evalT_chain] at h
    exact chain_core (fin := oM) RB.mono rl h fun G μ H ob h => at_test h
theorem hold_ok {ρ : Env} {σ : St} {G G' : Gh} {μ μ' : Sto} {H H' H2 : Hp} {rv : RV} {x : V} {hv : List (D × V)} {Z : Ent} (rl : Rl X.K Ca Z G' μ' ρ ((rv.d, x) :: hv) σ H') (v : ∀ d, rv.val = some d → Rep X.K G' H' d x) (b : ∀ i ds, rv = .bo i ds → ρ[i]? = some (.own ds) ∧ σ[i]? = some (some x)) :
    RvR X.K ρ σ G' H2 H' rv.hold x := by
  cases rv with
  | v d => exact v d rfl
  | fr ds => exact v _ rfl
  | bo i ds => exact b i ds rfl
theorem pe_andd {rest : List Expr} (ha : PE X a (tE X.K Ca W C g A)) (hb : PE X (.BoolOp .And (b :: rest) pos) (tE X.K Ca W C g B)) : PE X (.BoolOp .And (a :: b :: rest) pos) (tE X.K Ca W C g (.and A B)) :=
  (pe_andT ha hb).weak fun σ H Q ⟨Z, G, μ, ρ, hv, rl, h⟩ => by
    simp only [evalE] at h
    refine tE_then RvR.mono rl h fun x v G1 μ1 H1 _ rl1 v1 b1 h => ?_
    obtain ⟨k, e, h⟩ := h.oMb
    refine ⟨k, tru_of rl1 (rl1.hv _ List.mem_cons_self) e, ?_⟩
    cases k with
    | true => exact ⟨Z, G1, μ1, ρ, _, rl1, h⟩
    | false => exact h.pure rl1.ok (hold_ok (G := G) (μ := μ) (H := H) rl1 v1 b1)
theorem pe_orr {rest : List Expr} (ha : PE X a (tE X.K Ca W C g A)) (hb : PE X (.BoolOp .Or (b :: rest) pos) (tE X.K Ca W C g B)) : PE X (.BoolOp .Or (a :: b :: rest) pos) (tE X.K Ca W C g (.or A B)) :=
  (pe_orT ha hb).weak fun σ H Q ⟨Z, G, μ, ρ, hv, rl, h⟩ => by
    simp only [evalE] at h
    refine tE_then RvR.mono rl h fun x v G1 μ1 H1 _ rl1 v1 b1 h => ?_
    obtain ⟨k, e, h⟩ := h.oMb
    refine ⟨k, tru_of rl1 (rl1.hv _ List.mem_cons_self) e, ?_⟩
    cases k with
    | false => exact ⟨Z, G1, μ1, ρ, _, rl1, h⟩
    | true => exact h.pure rl1.ok (hold_ok (G := G) (μ := μ) (H := H) rl1 v1 b1)
theorem truD_hold (x : RV) : truD x.hold.d = truD x.d := by cases x <;> rfl
theorem evalT_not (ρ : Env) : evalT C g (.not A) ρ = M.bind (evalT C g A ρ) fun k => M.pure (!k) := by
  unfold evalT
  simp only [evalE, M.bind_assoc]
  rfl
theorem evalT_and (ρ : Env) : evalT C g (.and A B) ρ = M.bind (evalT C g A ρ) fun k => if k = true then evalT C g B ρ else M.pure false := by
  unfold evalT
  simp only [evalE, M.bind_assoc, M.ite_bind, M.pure_bind, truD_hold]
  congr 1; funext x
  cases e : truD x.d with
  | none => rfl
  | some k => cases k <;> rfl
theorem evalT_or (ρ : Env) : evalT C g (.or A B) ρ = M.bind (evalT C g A ρ) fun k => if k = true then M.pure true else evalT C g B ρ := by
  unfold evalT
  simp only [evalE, M.bind_assoc, M.ite_bind, M.pure_bind, truD_hold]
  congr 1; funext x
  cases e : truD x.d with
  | none => rfl
  | some k => cases k <;> rfl
/-- a test, and what hangs on it -/
theorem tT_then {α β : Type} {R' : Gh → Hp → Hp → α → β → Prop} {e : E} {k : Bool → M α} {Q : β → Hp → Prop} {T : Bool → Hp → Prop} {K : PySem.W.Frag} {σ : St} {H : Hp} {Z : Ent} {G : Gh} {μ : Sto} {ρ : Env} {hv : List (D × V)} (mono : Mono R') (rl : Rl K Ca Z G μ ρ hv σ H) (h : At K Ca W R' σ G μ H (M.bind (evalT C g e ρ) k) Q)
    (next : ∀ b G1 μ1 H1, Ext G μ H G1 μ1 H1 → Rl K Ca Z G1 μ1 ρ hv σ H1 → At K Ca W R' σ G1 μ1 H1 (k b) Q → T b H1) : tT K Ca W C g e σ H T := by
  refine ⟨Z, G, μ, ρ, hv, rl, (At.bind (R := RB) mono h).imp fun G1 μ1 H1 b c e1 ok1 r1 f => ?_⟩
  obtain ⟨b', G2, μ2, e2, ok2, r2, q⟩ := f c r1
  cases r2
  exact next c G2 μ2 H1 e2 (rl.step e2 ok2) (q G2 e2 ok2)
theorem pt_nott (ha : PT X a (tT X.K Ca W C g A)) : PT X (.UnaryOp .Not a pos) (tT X.K Ca W C g (.not A)) :=
  (pt_not ha).weak fun σ H Q ⟨Z, G, μ, ρ, hv, rl, h⟩ => by
    rw [evalT_not] at h
    exact tT_then RB.mono rl h fun b G1 μ1 H1 _ rl1 h => h.pure rl1.ok rfl
theorem pw_andd {rest : List Expr} (ha : PT X a (tT X.K Ca W C g A)) (hb : PW X (.BoolOp .And (b :: rest) pos) (tT X.K Ca W C g B)) : PW X (.BoolOp .And (a :: b :: rest) pos) (tT X.K Ca W C g (.and A B)) :=
  (pw_and ha hb).weak fun σ H Q ⟨Z, G, μ, ρ, hv, rl, h⟩ => by
    rw [evalT_and] at h
    refine tT_then RB.mono rl h fun k G1 μ1 H1 _ rl1 h => ?_
    cases k with
    | true => exact ⟨Z, G1, μ1, ρ, hv, rl1, h⟩
    | false => exact h.pure rl1.ok rfl
theorem pw_orr {rest : List Expr} (ha : PT X a (tT X.K Ca W C g A)) (hb : PW X (.BoolOp .Or (b :: rest) pos) (tT X.K Ca W C g B)) : PW X (.BoolOp .Or (a :: b :: rest) pos) (tT X.K Ca W C g (.or A B)) :=
  (pw_or ha hb).weak fun σ H Q ⟨Z, G, μ, ρ, hv, rl, h⟩ => by
    rw [evalT_or] at h
    refine tT_then RB.mono rl h fun k G1 μ1 H1 _ rl1 h => ?_
    cases k with
    | false => exact ⟨Z, G1, μ1, ρ, hv, rl1, h⟩
    | true => exact h.pure rl1.ok rfl
/-- any other value, by its truth -/
theorem pt_tru (ha : PE X a (tE X.K Ca W C g A)) (he : ∀ whole, isTrue a X.env whole = (do let v ← whole; standAt a.pos; holding [v] (truthy v))) : PT X a (tT X.K Ca W C g A) :=
  (pt_truth ha he).weak fun σ H Q ⟨Z, G, μ, ρ, hv, rl, h⟩ => by
    unfold evalT at h
    refine tE_then RB.mono rl h fun x v G1 μ1 H1 _ rl1 _ _ h => ?_
    obtain ⟨k, e, h⟩ := h.oM
    exact ⟨k, tru_of rl1 (rl1.hv _ List.mem_cons_self) e, h.pure rl1.ok rfl⟩
theorem pe_itee (hc : PT X c (tT X.K Ca W C g A2)) (ha : PE X a (tE X.K Ca W C g A)) (hb : PE X b (tE X.K Ca W C g B)) : PE X (.IfExp c a b pos) (tE X.K Ca W C g (.ite A2 A B)) :=
  (pe_ifExp hc ha hb).weak fun σ H Q ⟨Z, G, μ, ρ, hv, rl, h⟩ => by
    have e : evalE C g (.ite A2 A B) ρ = M.bind (evalT C g A2 ρ) fun k => if k = true then evalE C g A ρ else evalE C g B ρ := by
      unfold evalT
      simp only [evalE, M.bind_assoc]
    rw [e] at h
    refine tT_then RvR.mono rl h fun k G1 μ1 H1 _ rl1 h => ?_
    cases k with
    | true => exact ⟨Z, G1, μ1, ρ, hv, rl1, h⟩
    | false => exact ⟨Z, G1, μ1, ρ, hv, rl1, h⟩
theorem pe_lit {l : Lit} : (match l with | .non => PE X (.Constant .none j pos) (tE X.K Ca W C g (.lit l)) | .bl b => PE X (.Constant (.bool b) j pos) (tE X.K Ca W C g (.lit l)) | .int i => PE X (.Constant (.int i) j pos) (tE X.K Ca W C g (.lit l)) | .str x => PE X (.Constant (.str x) j pos) (tE X.K Ca W C g (.lit l))) := by
  have key : ∀ {v : V} {σ : St} {H : Hp} {Q : VK}, (∀ G H, Rep X.K G H (litD l) v) → (tE X.K Ca W C g (.lit l)) σ H Q → Q v H := fun {v σ H Q} r ⟨Z, G, μ, ρ, hv, rl, h⟩ => by
    simp only [evalE] at h
    exact same_of rl.ok h (r _ _)
  cases l with
  | non => exact pe_non.weak fun σ H Q h => key (fun G H => by simp only [litD, Rep]) h
  | bl b => exact pe_bl.weak fun σ H Q h => key (fun G H => rBl) h
  | int i => exact pe_int.weak fun σ H Q h => key (fun G H => rInt) h
  | str x => exact pe_str.weak fun σ H Q h => key (fun G H => rStr) h
theorem pe_varr {i : Nat} {x : Str} (hN : X.N[i]? = some x) (hv : Vis X.env.scope x) (hd : (x == ("__debug__" : Str)) = false) (hcd : (x == ("__classdict__" : Str)) = false) : PE X (.Name x pos) (tE X.K Ca W C g (.var i)) :=
  (pe_var hN hv hd hcd).weak fun σ H Q ⟨Z, G, μ, ρ, hv, rl, h⟩ => by
    simp only [evalE] at h
    cases e : ρ[i]? with
    | none => rw [e] at h; exact False.elim h
    | some s =>
      rw [e] at h
      cases s with
      | none => exact False.elim h
      | val d =>
        obtain ⟨v, e1, r⟩ := rl.sl.val i d e
        exact ⟨v, e1, same_of rl.ok h r⟩
      | own ds =>
        obtain ⟨a, vs, e1, _⟩ := rl.sl.own i ds e
        exact ⟨_, e1, h.pure rl.ok ⟨e, e1⟩⟩
theorem pe_globb {n : Nat} {x : Str} {u : Value} {v : V} {d : D} (hg : Gl X x) (hm : X.mg x = some u) (r : RelV v u) (e : g[n]? = some d) (hr : ∀ G H, Rep X.K G H d v) (hd : (x == ("__debug__" : Str)) = false) : PE X (.Name x pos) (tE X.K Ca W C g (.glob n)) :=
  (pe_glob hg hm r hd).weak fun σ H Q ⟨Z, G, μ, ρ, hv, rl, h⟩ => by
    simp only [evalE, e] at h
    exact same_of rl.ok h (hr _ _)
end
end J
/-! displays, items, calls. -/
namespace J
open PySem L2 PySem.Spec PyProof.Rows
section
variable {X : Cx} {Ca : Str → Addr} {W : WX} {C : Calls} {g : List D} {a b c : Expr} {A B A2 : E} {pos : Pos} {es : List Expr} {Es : List E}
theorem val_of {rv : RV} {α β : Type} {R : Gh → Hp → Hp → α → β → Prop} {K : PySem.W.Frag} {σ : St} {G : Gh} {μ : Sto} {H : Hp} {k : D → M α} {Q : β → Hp → Prop} (h : At K Ca W R σ G μ H (M.bind (needV rv) k) Q) : ∃ d, rv.val = some d ∧ At K Ca W R σ G μ H (k d) Q := At.oMb h
theorem pa_nill : PA X [] (tAs X.K Ca W C g []) := pa_nil.weak fun σ H Q ⟨Z, G, μ, ρ, hv, rl, h⟩ => by
  simp only [evalEs] at h
  exact h.pure rl.ok Reps.nil
theorem pa_conss (ha : PE X a (tE X.K Ca W C g A)) (hr : PA X es (tAs X.K Ca W C g Es)) (hs : starEach (a :: es) X.env = (false, eval a X.env) :: starEach es X.env) : PA X (a :: es) (tAs X.K Ca W C g (A :: Es)) :=
  (pa_cons ha hr hs).weak fun σ H Q ⟨Z, G, μ, ρ, hv, rl, h⟩ => by
    simp only [evalEs] at h
    refine tE_then RRs.mono rl h fun x v G1 μ1 H1 _ rl1 v1 _ h => ?_
    obtain ⟨d, ed, h⟩ := val_of h
    refine ⟨Z, G1, μ1, ρ, _, rl1, (At.bind (R := RRs X.K) RRs.mono h).imp fun G2 μ2 H2 ds vs e2 ok2 r2 f => ?_⟩
    obtain ⟨ds', G3, μ3, e3, ok3, r3, q⟩ := f vs r2
    exact (q G3 e3 ok3).pure ok3 (Reps.cons ((e3.stay rl1.ok).rep _ _ (v1 d ed)) r3)
theorem Hds.step {K : PySem.W.Frag} {G G' : Gh} {H H' : Hp} {μ μ' : Sto} {ρ : Env} {σ : St} (k : Okk K Ca G μ H) (e : Ext G μ H G' μ' H') : ∀ {ds : List D} {vs : List V}, Hds K G H ρ σ ds vs → Hds K G' H' ρ σ ds vs
  | [], _, h => h
  | _ :: _, _, ⟨v, r, e1, h1, h2⟩ => ⟨v, r, e1, h1.step k e, Hds.step k e h2⟩
theorem pb_nill : PA X [] (tBs X.K Ca W C g []) := pa_nil.weak fun σ H Q ⟨Z, G, μ, ρ, hv, rl, h⟩ => by
  simp only [evalBs] at h
  exact h.pure rl.ok rfl
theorem pb_conss (ha : PE X a (tE X.K Ca W C g A)) (hr : PA X es (tBs X.K Ca W C g Es)) (hs : starEach (a :: es) X.env = (false, eval a X.env) :: starEach es X.env) : PA X (a :: es) (tBs X.K Ca W C g (A :: Es)) :=
  (pa_cons ha hr hs).weak fun σ H Q ⟨Z, G, μ, ρ, hv, rl, h⟩ => by
    simp only [evalBs] at h
    refine tE_then RBs.mono rl h fun x v G1 μ1 H1 _ rl1 v1 _ h => ?_
    refine ⟨Z, G1, μ1, ρ, _, rl1, (At.bind (R := RBs X.K ρ σ) RBs.mono h).imp fun G2 μ2 H2 ds vs e2 ok2 r2 f => ?_⟩
    obtain ⟨ds', G3, μ3, e3, ok3, r3, q⟩ := f vs r2
    exact (q G3 e3 ok3).pure ok3 ⟨v, vs, rfl, (rl1.hv _ List.mem_cons_self).step rl1.ok e3, r3⟩
/-- arguments, and what hangs on them -/
theorem tAs_then {α β : Type} {R' : Gh → Hp → Hp → α → β → Prop} {k : List D → M α} {Q : β → Hp → Prop} {T : List V → Hp → Prop} {K : PySem.W.Frag} {σ : St} {H : Hp} {Z : Ent} {G : Gh} {μ : Sto} {ρ : Env} {hv : List (D × V)} (mono : Mono R') (rl : Rl K Ca Z G μ ρ hv σ H) (h : At K Ca W R' σ G μ H (M.bind (evalEs C g Es ρ) k) Q)
    (next : ∀ ds vs G1 μ1 H1, Ext G μ H G1 μ1 H1 → Rl K Ca Z G1 μ1 ρ hv σ H1 → Reps K G1 H1 ds vs → At K Ca W R' σ G1 μ1 H1 (k ds) Q → T vs H1) : tAs K Ca W C g Es σ H T := by
  refine ⟨Z, G, μ, ρ, hv, rl, (At.bind (R := RRs K) mono h).imp fun G1 μ1 H1 ds vs e1 ok1 r1 f => ?_⟩
  obtain ⟨ds', G2, μ2, e2, ok2, r2, q⟩ := f vs r1
  exact next ds' vs G2 μ2 H1 e2 (rl.step e2 ok2) r2 (q G2 e2 ok2)
theorem tBs_then {α β : Type} {R' : Gh → Hp → Hp → α → β → Prop} {k : List D → M α} {Q : β → Hp → Prop} {T : List V → Hp → Prop} {K : PySem.W.Frag} {σ : St} {H : Hp} {Z : Ent} {G : Gh} {μ : Sto} {ρ : Env} {hv : List (D × V)} (mono : Mono R') (rl : Rl K Ca Z G μ ρ hv σ H) (h : At K Ca W R' σ G μ H (M.bind (evalBs C g Es ρ) k) Q)
    (next : ∀ ds vs G1 μ1 H1, Ext G μ H G1 μ1 H1 → Rl K Ca Z G1 μ1 ρ hv σ H1 → Hds K G1 H1 ρ σ ds vs → At K Ca W R' σ G1 μ1 H1 (k ds) Q → T vs H1) : tBs K Ca W C g Es σ H T := by
  refine ⟨Z, G, μ, ρ, hv, rl, (At.bind (R := RBs K ρ σ) mono h).imp fun G1 μ1 H1 ds vs e1 ok1 r1 f => ?_⟩
  obtain ⟨ds', G2, μ2, e2, ok2, r2, q⟩ := f vs r1
  exact next ds' vs G2 μ2 H1 e2 (rl.step e2 ok2) r2 (q G2 e2 ok2)
theorem pe_tupp {x1 : Nat} (h : PA X es (tAs X.K Ca W C g Es)) : PE X (.Tuple es x1 pos) (tE X.K Ca W C g (.tup Es)) :=
  (pe_tup h).weak fun σ H Q ⟨Z, G, μ, ρ, hv, rl, h⟩ => by
    simp only [evalE] at h
    refine tAs_then RvR.mono rl h fun ds vs G1 μ1 H1 _ rl1 r1 h => ?_
    obtain ⟨hl, h⟩ := h.ite
    exact ⟨by rw [← r1.length]; exact hl, newT rl1.ok h r1⟩
theorem pe_lstt (h : PA X es (tAs X.K Ca W C g Es)) : PE X (.List es pos) (tE X.K Ca W C g (.lst Es)) :=
  (pe_lst h).weak fun σ H Q ⟨Z, G, μ, ρ, hv, rl, h⟩ => by
    simp only [evalE] at h
    refine tAs_then RvR.mono rl h fun ds vs G1 μ1 H1 _ rl1 r1 h => ?_
    obtain ⟨hl, h⟩ := h.ite
    exact ⟨by rw [← r1.length]; exact hl, newL rl1.ok h r1⟩
/-- a new cell -/
theorem newCell {K : PySem.W.Frag} {G G1 : Gh} {μ μ1 : Sto} {H H1 : Hp} {c : Cell} {p : Addr} (e : Ext G μ H G1 μ1 H1) (ok : Okk K Ca G1 μ1 H1) (hp : H p = none) (h1 : H1 p ≠ none) (hf : ¬ G1.Fz p) (hφ : ∀ n : Nat, G1.φ[n]? ≠ some p)
    (hc : CellR K Ca ⟨G1.φ ++ [p], G1.Fz⟩ H1 c p) (hd : c ≠ .dead) : Ext G μ H ⟨G1.φ ++ [p], G1.Fz⟩ (μ1 ++ [c]) H1 ∧ Okk K Ca ⟨G1.φ ++ [p], G1.Fz⟩ (μ1 ++ [c]) H1 := by
  have at_ : ∀ {n : Nat} {a : Addr}, (G1.φ ++ [p])[n]? = some a → G1.φ[n]? = some a ∨ (n = G1.φ.length ∧ a = p) := fun {n a} h => by
    by_cases hn : n < G1.φ.length
    · rw [List.getElem?_append_left hn] at h; exact .inl h
    · rw [List.getElem?_append_right (by omega)] at h
      by_cases h0 : n - G1.φ.length = 0
      · rw [h0] at h; simp at h; exact .inr ⟨by omega, h.symm⟩
      · rw [List.getElem?_eq_none (by simp; omega)] at h; cases h
  have ct : ∀ {n : Nat} {a : Cell}, (μ1 ++ [c])[n]? = some a → μ1[n]? = some a ∨ (n = μ1.length ∧ a = c) := fun {n a} h => by
    by_cases hn : n < μ1.length
    · rw [List.getElem?_append_left hn] at h; exact .inl h
    · rw [List.getElem?_append_right (by omega)] at h
      by_cases h0 : n - μ1.length = 0
      · rw [h0] at h; simp at h; exact .inr ⟨by omega, h.symm⟩
      · rw [List.getElem?_eq_none (by simp; omega)] at h; cases h
  have lt : ∀ {n : Nat} {a : Addr}, G1.φ[n]? = some a → n < G1.φ.length := fun {n a} h => by
    obtain ⟨h, _⟩ := List.getElem?_eq_some_iff.mp h; exact h
  have ltm : ∀ {n : Nat} {a : Cell}, μ1[n]? = some a → n < μ1.length := fun {n a} h => by
    obtain ⟨h, _⟩ := List.getElem?_eq_some_iff.mp h; exact h
  have lvv : ∀ b, Lv ⟨G1.φ ++ [p], G1.Fz⟩ (μ1 ++ [c]) b → Lv G1 μ1 b ∨ b = p := fun b ⟨n, cc, h1, h2, h3⟩ => by
    rcases at_ h1 with h1 | ⟨h1, h4⟩
    · rcases ct h2 with h2 | ⟨h2, _⟩
      · exact .inl ⟨n, cc, h1, h2, h3⟩
      · have := lt h1; have := ok.len; omega
    · exact .inr h4
  have st : Stay K G1 H1 ⟨G1.φ ++ [p], G1.Fz⟩ H1 := ⟨fun n a h => by
    show (G1.φ ++ [p])[n]? = some a
    rw [List.getElem?_append_left (lt h)]; exact h, fun _ h => h, fun _ _ h _ => h, fun _ _ h _ => h⟩
  refine ⟨⟨fun n a h => st.pre n a (e.pre n a h), fun n a h => ?_, e.fz, e.fzn, e.keep, e.old, fun b h => ?_⟩, ⟨?_, fun n m a h1 h2 => ?_, fun n a h => ?_, fun b h f => ?_, ok.fex, fun n cc a q1 q2 => ?_⟩⟩
  · rcases at_ h with h | ⟨_, rfl⟩
    · exact e.new n a h
    · exact .inr hp
  · rcases lvv b h with h | rfl
    · exact e.lv b h
    · exact .inr hp
  · show (μ1 ++ [c]).length = (G1.φ ++ [p]).length
    rw [List.length_append, List.length_append, ok.len]; rfl
  · rcases at_ h1 with q1 | ⟨q1, q2⟩ <;> rcases at_ h2 with q3 | ⟨q3, q4⟩
    · exact ok.nd n m a q1 q3
    · rw [q4] at q1; exact absurd q1 (hφ n)
    · rw [q2] at q3; exact absurd q3 (hφ m)
    · omega
  · rcases at_ h with h | ⟨_, rfl⟩
    · exact ok.ex n a h
    · exact h1
  · rcases lvv b h with h | rfl
    · exact ok.nfz b h f
    · exact hf f
  · rcases at_ q2 with q2 | ⟨q2, q3⟩
    · rcases ct q1 with q1 | ⟨q1, _⟩
      · exact (ok.cell n cc a q1 q2).step st fun _ h => h
      · have := lt q2; have := ok.len; omega
    · rcases ct q1 with q1 | ⟨_, q4⟩
      · have := ltm q1; have := ok.len; omega
      · rw [q3, q4]; exact hc
theorem pe_cell (h : PE X a (tE X.K Ca W C g A)) : PE X a (tE X.K Ca W C g (.cell A)) :=
  h.weak fun σ H Q ⟨Z, G, μ, ρ, hv, rl, h⟩ => ⟨Z, G, μ, ρ, hv, rl, by
    simp only [evalE] at h
    unfold At M.bind at h
    unfold At
    cases e : evalE C g A ρ μ with
    | none => rw [e] at h; exact h
    | some r =>
      rw [e] at h
      cases r with
      | exc x μ1 => exact h
      | ok rv μ1 =>
        intro G1 v H1 e1 ok1 r1
        cases rv with
        | v d => exact False.elim h
        | bo i ds => exact False.elim h
        | fr ds =>
          obtain ⟨p, vs, rfl, h0, h1, h2, h3, h4⟩ := r1
          have st : Stay X.K G1 H1 ⟨G1.φ ++ [p], G1.Fz⟩ H1 := ⟨fun n a h => by
            show (G1.φ ++ [p])[n]? = some a
            obtain ⟨hl, _⟩ := List.getElem?_eq_some_iff.mp h
            rw [List.getElem?_append_left hl]; exact h, fun _ h => h, fun _ _ h _ => h, fun _ _ h _ => h⟩
          obtain ⟨e2, ok2⟩ := newCell (Ca := Ca) (c := .lst ds) e1 ok1 h0 (by rw [h1]; intro z; cases z) h3 h4 ⟨vs, h1, st.reps _ _ h2⟩ (by intro z; cases z)
          have h : ∀ G2 v H2, Ext G μ H G2 (μ1 ++ [.lst ds]) H2 → Okk X.K Ca G2 (μ1 ++ [.lst ds]) H2 → RvR X.K ρ σ G2 H H2 (.v (.ref μ1.length)) v → Q v H2 := h
          refine h _ _ _ e2 ok2 ?_
          show Rep X.K ⟨G1.φ ++ [p], G1.Fz⟩ H1 (.ref μ1.length) (.ref p)
          simp only [Rep]
          refine ⟨p, rfl, ?_⟩
          show (G1.φ ++ [p])[μ1.length]? = some p
          rw [ok1.len, List.getElem?_append_right (Nat.le_refl _)]
          simp⟩
theorem pe_idxx {k : Nat} (hr : Room k X.A) (ha : PE X a (tE X.K Ca W C g A)) (hb : PE X b (tE X.K Ca W C g B)) (hs : PlainIx b) : PE X (.Subscript a b pos) (tE X.K Ca W C g (.idx A B)) :=
  (pe_ix (idx_ok (X := X) (Ca := Ca) (W := W) hr) ha hb hs).weak fun σ H Q ⟨Z, G, μ, ρ, hv, rl, h⟩ => by
    simp only [evalE] at h
    refine tE_then RvR.mono rl h fun x v G1 μ1 H1 _ rl1 _ _ h => ?_
    refine tE_then RvR.mono rl1 h fun y u G2 μ2 H2 _ rl2 _ _ h => ?_
    exact ⟨Z, G2, μ2, ρ, _, σ, x.d, y.d, rl2, rl2.hv _ (List.mem_cons_of_mem _ List.mem_cons_self), rl2.hv _ List.mem_cons_self, h⟩
theorem po_nonee : PO X none (tO X.K Ca W C g none) := po_none.weak fun σ H Q ⟨Z, G, μ, ρ, hv, rl, h⟩ => by
  simp only [evalO] at h
  exact h.pure rl.ok rfl
theorem po_somee (ha : PE X a (tE X.K Ca W C g A)) : PO X (some a) (tO X.K Ca W C g (some A)) := (po_some ha).weak fun σ H Q ⟨Z, G, μ, ρ, hv, rl, h⟩ => by
  simp only [evalO] at h
  refine tE_then RO.mono rl h fun x v G1 μ1 H1 _ rl1 _ _ h => ?_
  obtain ⟨i, e, h⟩ := h.oMb
  have hx := rl1.hv _ List.mem_cons_self
  cases e2 : x.d with
  | int j => rw [e2] at e hx; cases e; exact ⟨_, hx.int, h.pure rl1.ok rfl⟩
  | _ => rw [e2] at e; cases e
theorem tO_then {α β : Type} {R' : Gh → Hp → Hp → α → β → Prop} {o : Option E} {k : Option Int → M α} {Q : β → Hp → Prop} {T : Option Int → Hp → Prop} {K : PySem.W.Frag} {σ : St} {H : Hp} {Z : Ent} {G : Gh} {μ : Sto} {ρ : Env} {hv : List (D × V)} (mono : Mono R') (rl : Rl K Ca Z G μ ρ hv σ H) (h : At K Ca W R' σ G μ H (M.bind (evalO C g o ρ) k) Q)
    (next : ∀ i G1 μ1 H1, Ext G μ H G1 μ1 H1 → Rl K Ca Z G1 μ1 ρ hv σ H1 → At K Ca W R' σ G1 μ1 H1 (k i) Q → T i H1) : tO K Ca W C g o σ H T := by
  refine ⟨Z, G, μ, ρ, hv, rl, (At.bind (R := RO) mono h).imp fun G1 μ1 H1 ds vs e1 ok1 r1 f => ?_⟩
  obtain ⟨ds', G2, μ2, e2, ok2, r2, q⟩ := f vs r1
  cases r2
  exact next vs G2 μ2 H1 e2 (rl.step e2 ok2) (q G2 e2 ok2)
theorem pe_slcc {lo hi : Option Expr} {Lo Hi : Option E} {p2 : Pos} (ha : PE X a (tE X.K Ca W C g A)) (hl : PO X lo (tO X.K Ca W C g Lo)) (hh : PO X hi (tO X.K Ca W C g Hi)) : PE X (.Subscript a (.Slice lo hi none p2) pos) (tE X.K Ca W C g (.slc A Lo Hi)) :=
  (pe_slice (slc_ok (X := X) (Ca := Ca) (W := W)) ha hl hh).weak fun σ H Q ⟨Z, G, μ, ρ, hv, rl, h⟩ => by
    simp only [evalE] at h
    refine tE_then RvR.mono rl h fun x v G1 μ1 H1 _ rl1 _ _ h => ?_
    refine tO_then RvR.mono rl1 h fun l G2 μ2 H2 _ rl2 h => ?_
    refine tO_then RvR.mono rl2 h fun u G3 μ3 H3 _ rl3 h => ?_
    exact ⟨Z, G3, μ3, ρ, _, σ, x.d, rl3, rl3.hv _ List.mem_cons_self, h⟩
theorem pe_revv {k : Nat} {p1 p2 p3 : Pos} (ha : PE X a (tE X.K Ca W C g A)) : PE X (.Subscript a (.Slice none none (some (.UnaryOp .USub (.Constant (.int 1) k p1) p2)) p3) pos) (tE X.K Ca W C g (.rev A)) :=
  (pe_revL ha).weak fun σ H Q ⟨Z, G, μ, ρ, hv, rl, h⟩ => by
    simp only [evalE] at h
    refine tE_then RvR.mono rl h fun x v G1 μ1 H1 _ rl1 _ _ h => ?_
    have hx := rl1.hv _ List.mem_cons_self
    cases e2 : x.d with
    | lst ds =>
      rw [e2] at h hx
      obtain ⟨p, vs, rfl, h1, r1⟩ := hx.lst rl1.sl
      exact ⟨p, vs, rfl, .inl (.inl h1), newL rl1.ok h r1.reverse⟩
    | _ => rw [e2] at h; exact False.elim h
/-- a def's promise, by the evaluation of its call -/
def spI (K : PySem.W.Frag) (Ca : Str → Addr) (c : List D → M RV) : Sp := fun vs H Q E => ∃ G μ ds, Okk K Ca G μ H ∧ Reps K G H ds vs ∧ At K Ca (fun cls d _ H => E cls d H) (RvR K [] []) [] G μ H (c ds) Q
theorem spI_of {K : PySem.W.Frag} {ρ : Env} {σ : St} {G : Gh} {μ : Sto} {H : Hp} {ds : List D} {vs : List V} {c : List D → M RV} {Q : VK} (ok : Okk K Ca G μ H) (r : Reps K G H ds vs) (h : At K Ca W (RvR K ρ σ) σ G μ H (c ds) Q) : spI K Ca c vs H Q (fun cls d H => W cls d σ H) := by
  refine ⟨G, μ, ds, ok, r, ?_⟩
  unfold At at h ⊢
  cases q : c ds μ with
  | none => rw [q] at h; exact h
  | some rr =>
    rw [q] at h
    cases rr with
    | exc x μ3 => exact h
    | ok a μ3 => exact fun G4 w H4 e4 ok4 r4 => h G4 w H4 e4 ok4 (by
      cases a with
      | v d => exact r4
      | fr ds => exact r4
      | bo i ds => exact absurd r4.1 (by simp))
theorem pe_calll {x : Str} {p : Pos} {k : Nat} {f : Nat} {fa : Addr} {fd : FuncData} {ps : List Str} (tk : Takes X W) (F : FnOk X.prog X.w X.K X.mg X.base (L2.CX X.prog X.w) k fa fd ps (spI X.K Ca (C f))) (hr : Room k X.A) (hg : Gl X x) (hm : X.mg x = some (.ref fa)) (hk : PySem.W.keepIn X.K (.ref fa) = true) (hb : Binds X.K fd ps [])
    (ha : PA X (a :: es) (tAs X.K Ca W C g (A :: Es))) (hdb : (x == ("__debug__" : Str)) = false) (he : starEach (a :: es) X.env = (false, eval a X.env) :: starEach es X.env) (hpl : (backTo pos (starEach es X.env)).any (·.1) = false) :
    PE X (.Call (.Name x p) (a :: es) [] pos) (tE X.K Ca W C g (.call f (A :: Es))) :=
  (pe_callSD F hr hg hm hk hb .nil (E := WE W) (fun σ => passAt tk σ) ha hdb he hpl).weak fun σ H Q ⟨Z, G, μ, ρ, hv, rl, h⟩ => by
    simp only [evalE] at h
    refine tAs_then RvR.mono rl h fun ds vs G1 μ1 H1 _ rl1 r1 h => ?_
    rw [List.append_nil]
    cases ds with
    | nil =>
      refine spI_of (ρ := ρ) rl1.ok r1 ?_
      have h : At X.K Ca W (RvR X.K ρ σ) σ G1 μ1 H1 (noex (C f [])) Q := h
      unfold At noex at h
      unfold At
      cases q : C f [] μ1 with
      | none => rw [q] at h; exact h
      | some rr =>
        rw [q] at h
        cases rr with
        | exc x μ3 => exact False.elim h
        | ok a μ3 => exact h
    | cons d ds => exact spI_of rl1.ok r1 h
theorem pe_calll0 {x : Str} {p : Pos} {k : Nat} {f : Nat} {fa : Addr} {fd : FuncData} {ps : List Str} (F : FnOk X.prog X.w X.K X.mg X.base (L2.CX X.prog X.w) k fa fd ps (spI X.K Ca (C f))) (hr : Room k X.A) (hg : Gl X x) (hm : X.mg x = some (.ref fa)) (hk : PySem.W.keepIn X.K (.ref fa) = true) (hb : Binds X.K fd ps [])
    (hdb : (x == ("__debug__" : Str)) = false) : PE X (.Call (.Name x p) [] [] pos) (tE X.K Ca W C g (.call f [])) :=
  (pe_call0 F hr hg hm hk hb .nil (E := E0) passL hdb).weak fun σ H Q ⟨Z, G, μ, ρ, hv, rl, h⟩ => by
    simp only [evalE, evalEs] at h
    have h : At X.K Ca W (RvR X.K ρ σ) σ G μ H (noex (C f [])) Q := h
    refine ⟨G, μ, [], rl.ok, Reps.nil, ?_⟩
    unfold At noex at h
    unfold At
    cases q : C f [] μ with
    | none => rw [q] at h; exact h
    | some rr =>
      rw [q] at h
      cases rr with
      | exc x μ3 => exact False.elim h
      | ok a μ3 => exact fun G4 w H4 e4 ok4 r4 => h G4 w H4 e4 ok4 (by
        cases a with
        | v d => exact r4
        | fr ds => exact r4
        | bo i ds => exact absurd r4.1 (by simp))
end
end J
/-! built-in functions and methods, called. -/
namespace J
open PySem L2 PySem.Spec PyProof.Rows
section
variable {X : Cx} {Ca : Str → Addr} {W : WX} {C : Calls} {g : List D} {a b c : Expr} {A B A2 : E} {pos : Pos} {es : List Expr} {Es : List E}
/-- the built-in function of a name -/
def Blt.id? : Blt → Option String
  | .len => some "len" | .max2 => some "max" | .min2 => some "min" | .maxL => some "max" | .minL => some "min" | .sum => some "sum" | .abs => some "abs" | .all => some "all" | .any => some "any" | _ => none
def Blt.ty? : Blt → Option String
  | .int => some "int" | .str => some "str" | .list => some "list" | .tuple => some "tuple" | _ => none
theorem Blt.fn_id {b : Blt} {i : String} (h : b.id? = some i) : b.fn = .builtin i ∧ b.cls = none := by cases b <;> cases h <;> exact ⟨rfl, rfl⟩
theorem Blt.fn_ty {b : Blt} {i : String} (h : b.ty? = some i) : b.fn = .type i ∧ b.cls = none := by cases b <;> cases h <;> exact ⟨rfl, rfl⟩
theorem bs_call {b : Blt} {σ : St} {H : Hp} {Q : VK} (h : tE X.K Ca W C g (.blt b Es) σ H Q) : tCB (rCl X.K Ca W (bltM b)) (tBs X.K Ca W C g Es) σ H Q := by
  obtain ⟨Z, G, μ, ρ, hv, rl, h⟩ := h
  simp only [evalE] at h
  exact tBs_then RvR.mono rl h fun ds vs G1 μ1 H1 _ rl1 r1 h => ⟨Z, G1, μ1, ρ, _, σ, ds, rl1, r1, h⟩
theorem pe_bltf {b : Blt} {i : String} {x : Str} {p : Pos} (hc : X.calm = true) (hi : b.id? = some i) (hg : Gl X x) (hm : X.mg x = none) (hv : bootBuiltins x = some (.builtin i)) (ha : PA X (a :: es) (tBs X.K Ca W C g Es)) (hn : x ≠ "__name__") (hdb : (x == ("__debug__" : Str)) = false)
    (he : starEach (a :: es) X.env = (false, eval a X.env) :: starEach es X.env) (hpl : (backTo pos (starEach es X.env)).any (·.1) = false) : PE X (.Call (.Name x p) (a :: es) [] pos) (tE X.K Ca W C g (.blt b Es)) :=
  (pe_callB (by rw [← (Blt.fn_id hi).1]; exact blt_ok (W := W) (Ca := Ca) hc (Blt.fn_id hi).2) hg hm hv ha hn hdb he hpl).weak fun σ H Q h => bs_call h
theorem pe_bltt {b : Blt} {i : String} {x : Str} {p : Pos} (hc : X.calm = true) (hi : b.ty? = some i) (hg : Gl X x) (hm : X.mg x = none) (hv : bootBuiltins x = some (.type i)) (ha : PA X (a :: es) (tBs X.K Ca W C g Es)) (hn : x ≠ "__name__") (hdb : (x == ("__debug__" : Str)) = false)
    (he : starEach (a :: es) X.env = (false, eval a X.env) :: starEach es X.env) (hpl : (backTo pos (starEach es X.env)).any (·.1) = false) : PE X (.Call (.Name x p) (a :: es) [] pos) (tE X.K Ca W C g (.blt b Es)) :=
  (pe_callTy (by rw [← (Blt.fn_ty hi).1]; exact blt_ok (W := W) (Ca := Ca) hc (Blt.fn_ty hi).2) hg hm hv ha hn hdb he hpl).weak fun σ H Q h => bs_call h
/-- isinstance(e, T) -/
theorem pa_isi {y : Str} {t : String} {p : Pos} (ha : PE X a (tE X.K Ca W C g A)) (hg : Gl X y) (hm : X.mg y = none) (hv : bootBuiltins y = some (.type t)) (hn : y ≠ "__name__") (hdb : (y == ("__debug__" : Str)) = false)
    (n1 : starEach [a, .Name y p] X.env = (false, eval a X.env) :: starEach [.Name y p] X.env) (n2 : starEach [.Name y p] X.env = (false, eval (.Name y p) X.env) :: starEach [] X.env) :
    PA X [a, .Name y p] fun σ H Q => tE X.K Ca W C g A σ H fun x H1 => Q [x, .ty t] H1 :=
  (pa_cons ha (pa_cons (pe_bltn (v := .ty t) hg hm hv rfl hn hdb) pa_nil n2) n1).weak fun σ H Q h => h
def isD : Blt → Option (String × (D → Bool))
  | .isBool => some ("bool", isBoolD) | .isInt => some ("int", isIntD) | .isStr => some ("str", isStrD) | .isTuple => some ("tuple", isTupleD) | .isList => some ("list", isListD) | _ => none
theorem isD_kit {b : Blt} {t : String} {f : D → Bool} (h : isD b = some (t, f)) : ∀ d, (∀ k, d ≠ .ref k) → kitB (tyD d) t = some (f d) := by
  cases b <;> cases h
  · exact kitB_bool
  · exact kitB_int
  · exact kitB_str
  · exact kitB_tuple
  · exact kitB_list
theorem isD_blt {b : Blt} {t : String} {f : D → Bool} (h : isD b = some (t, f)) (d : D) : bltD b [d] = isiD d (f d) := by
  cases b <;> cases h <;> rfl
theorem bltM_isi {b : Blt} {t : String} {f : D → Bool} (h : isD b = some (t, f)) (d : D) : bltM b [d] = oM (isiD d (f d)) := by
  funext μ
  unfold bltM
  split
  · cases h
  · rw [isD_blt h]
theorem pe_isii {b : Blt} {t : String} {f : D → Bool} {x y : Str} {p p2 : Pos} (hi : isD b = some (t, f)) (hg : Gl X x) (hm : X.mg x = none) (hv : bootBuiltins x = some (.builtin "isinstance")) (hg2 : Gl X y) (hm2 : X.mg y = none) (hv2 : bootBuiltins y = some (.type t))
    (ha : PE X a (tE X.K Ca W C g A)) (hn : x ≠ "__name__") (hdb : (x == ("__debug__" : Str)) = false) (hn2 : y ≠ "__name__") (hdb2 : (y == ("__debug__" : Str)) = false)
    (n1 : starEach [a, .Name y p2] X.env = (false, eval a X.env) :: starEach [.Name y p2] X.env) (n2 : starEach [.Name y p2] X.env = (false, eval (.Name y p2) X.env) :: starEach [] X.env)
    (hpl : (backTo pos (starEach [.Name y p2] X.env)).any (·.1) = false) : PE X (.Call (.Name x p) [a, .Name y p2] [] pos) (tE X.K Ca W C g (.blt b [A])) :=
  (pe_callB (isi_ok (X := X) (Ca := Ca) (W := W) (isD_kit hi)) hg hm hv (pa_isi ha hg2 hm2 hv2 hn2 hdb2 n1 n2) hn hdb n1 hpl).weak fun σ H Q ⟨Z, G, μ, ρ, hv, rl, h⟩ => by
    simp only [evalE, evalBs, M.bind_assoc, M.pure_bind] at h
    refine tE_then RvR.mono rl h fun x v G1 μ1 H1 _ rl1 _ _ h => ?_
    rw [bltM_isi hi] at h
    have hn : ∀ k, x.d ≠ .ref k := fun k e => by rw [e] at h; exact h
    refine ⟨Z, G1, μ1, ρ, _, σ, x.d, v, rfl, hn, rl1, rl1.hv _ List.mem_cons_self, ?_⟩
    have e : isiD x.d (f x.d) = some (.v (.bl (f x.d))) := by
      cases q : x.d <;> first | rfl | exact absurd q (hn _)
    rw [e] at h
    exact h
/-- list(reversed(x)) -/
theorem pe_lrev {p p2 pos2 : Pos} (hc : X.calm = true) (hg : Gl X "list") (hm : X.mg "list" = none) (hg2 : Gl X "reversed") (hm2 : X.mg "reversed" = none) (ha : PE X a (tE X.K Ca W C g A))
    (n1 : starEach [a] X.env = (false, eval a X.env) :: starEach [] X.env) (n2 : starEach [.Call (.Name "reversed" p2) [a] [] pos2] X.env = (false, eval (.Call (.Name "reversed" p2) [a] [] pos2) X.env) :: starEach [] X.env) :
    PE X (.Call (.Name "list" p) [.Call (.Name "reversed" p2) [a] [] pos2] [] pos) (tE X.K Ca W C g (.rev A)) :=
  (pe_lstRev hc hg hm hg2 hm2 ha n1 n2).weak fun σ H Q ⟨Z, G, μ, ρ, hv, rl, h⟩ => by
    simp only [evalE] at h
    refine tE_then RvR.mono rl h fun x v G1 μ1 H1 _ rl1 _ _ h => ?_
    have hx := rl1.hv _ List.mem_cons_self
    cases e2 : x.d with
    | lst ds =>
      rw [e2] at h hx
      obtain ⟨p, vs, rfl, h1, r1⟩ := hx.lst rl1.sl
      exact ⟨p, vs, rfl, .inl (.inl h1), newL rl1.ok h r1.reverse⟩
    | _ => rw [e2] at h; exact False.elim h

/-! ### methods -/
theorem meth_eq {m : Mth} {ρ : Env} : evalE C g (.meth m A [B]) ρ = M.bind (evalE C g A ρ) fun x => M.bind (chkM m x.d) fun _ => M.bind (evalE C g B ρ) fun y => methM m x.d [y.d] := by
  simp only [evalE, evalBs, M.bind_assoc, M.pure_bind]
theorem meth_eq0 {m : Mth} {ρ : Env} : evalE C g (.meth m A []) ρ = M.bind (evalE C g A ρ) fun x => M.bind (chkM m x.d) fun _ => methM m x.d [] := by
  simp only [evalE, evalBs, M.bind_assoc, M.pure_bind]
theorem meth_eq2 {m : Mth} {ρ : Env} : evalE C g (.meth m A [B, A2]) ρ = M.bind (evalE C g A ρ) fun x => M.bind (chkM m x.d) fun _ => M.bind (evalE C g B ρ) fun y => M.bind (evalE C g A2 ρ) fun z => methM m x.d [y.d, z.d] := by
  simp only [evalE, evalBs, M.bind_assoc, M.pure_bind]
theorem methM_of {m : Mth} {o : D} {ds : List D} (h : ∀ n, o ≠ .ref n) : methM m o ds = oM (methD m o ds) := by
  funext μ
  cases o <;> first | rfl | exact absurd rfl (h _)
theorem chkM_ok (m : Mth) (o : D) (μ : Sto) : chkM m o μ = none ∨ chkM m o μ = some (.ok () μ) := by
  unfold chkM
  split <;> first | exact .inr rfl | exact .inl rfl | (split <;> first | exact .inr rfl | exact .inl rfl)
theorem At.chk {K : PySem.W.Frag} {σ : St} {G : Gh} {μ : Sto} {H : Hp} {α β : Type} {R : Gh → Hp → Hp → α → β → Prop} {m : Mth} {o : D} {k : Unit → M α} {Q : β → Hp → Prop} (h : At K Ca W R σ G μ H (M.bind (chkM m o) k) Q) : chkM m o μ = some (.ok () μ) ∧ At K Ca W R σ G μ H (k ()) Q := by
  unfold At M.bind at h
  rcases chkM_ok m o μ with e | e
  · rw [e] at h; exact h.elim
  · rw [e] at h; exact ⟨e, h⟩
theorem chk_str {m : Mth} {o : D} {μ : Sto} (hm : m = .join ∨ m = .split ∨ m = .sindex) (h : chkM m o μ = some (.ok () μ)) : ∃ z, o = .str z := by
  rcases hm with rfl | rfl | rfl <;> (cases o <;> first | exact ⟨_, rfl⟩ | (simp [chkM] at h))
theorem str_meth {m : Mth} {H : Hp} {σ : St} {Q : VK} {r : V → List V → Hp → VK → Prop} (hm : m = .join ∨ m = .split ∨ m = .sindex)
    (hr : ∀ z y σ H Q, (∃ Z G μ ρ hv, Rl X.K Ca Z G μ ρ hv σ H ∧ ∃ d, Hd X.K G H ρ σ d y ∧ At X.K Ca W (RvR X.K ρ σ) σ G μ H (oM (methD m (.str z) [d])) Q) → r (.str z) [y] H Q)
    (h : tE X.K Ca W C g (.meth m A [B]) σ H Q) : tM1 r (tE X.K Ca W C g A) (tE X.K Ca W C g B) σ H Q := by
  obtain ⟨Z, G, μ, ρ, hv, rl, h⟩ := h
  rw [meth_eq] at h
  refine tE_then RvR.mono rl h fun x v G1 μ1 H1 _ rl1 _ _ h => ?_
  obtain ⟨e1, h⟩ := h.chk
  obtain ⟨z, ez⟩ := chk_str hm e1
  have hx := rl1.hv _ List.mem_cons_self
  rw [ez] at hx h
  have hv : v = .str z := hx.str
  refine ⟨⟨z, hv⟩, ?_⟩
  rw [hv]
  refine tE_then RvR.mono rl1 h fun y u G2 μ2 H2 _ rl2 _ _ h => ?_
  rw [methM_of (fun n e => by cases e)] at h
  exact hr z u σ H2 Q ⟨Z, G2, μ2, ρ, _, rl2, y.d, rl2.hv _ List.mem_cons_self, h⟩
theorem pe_joinn {apos : Pos} (ha : PE X a (tE X.K Ca W C g A)) (hb : PE X b (tE X.K Ca W C g B)) (hs : starEach [b] X.env = [(false, eval b X.env)]) (hbase : attributeBase a "join" X.env (eval a X.env) = eval a X.env) (hline : (apos.endLine == pos.line) = true) :
    PE X (.Call (.Attribute a "join" apos) [b] [] pos) (tE X.K Ca W C g (.meth .join A [B])) :=
  (pe_join ha hb hs hbase hline).weak fun σ H Q h => str_meth (.inl rfl) (fun z y σ H Q ⟨Z, G, μ, ρ, hv, rl, d, hd, h0⟩ => by
    obtain ⟨rv, e, h⟩ := h0.oM
    clear h0
    simp only [methD, Option.bind_eq_some_iff] at e
    obtain ⟨ds, e1, ys, e2, e⟩ := e
    split at e
    · rename_i hz
      cases e
      cases d with
      | lst ds' =>
        cases e1
        obtain ⟨p, vs, rfl, h1, r1⟩ := hd.lst rl.sl
        rw [r1.ofStrs e2] at h1
        exact ⟨z, p, ys, rfl, rfl, .inl (.inl (.inl h1)), hz, same_of rl.ok h rStr⟩
      | tup ds' =>
        cases e1
        obtain ⟨p, vs, rfl, h1, r1⟩ := hd.tup
        rw [r1.ofStrs e2] at h1
        exact ⟨z, p, ys, rfl, rfl, .inr h1, hz, same_of rl.ok h rStr⟩
      | _ => cases e1
    · cases e) h
theorem pe_splitt {apos : Pos} (ha : PE X a (tE X.K Ca W C g A)) (hb : PE X b (tE X.K Ca W C g B)) (hs : starEach [b] X.env = [(false, eval b X.env)]) (hbase : attributeBase a "split" X.env (eval a X.env) = eval a X.env) (hline : (apos.endLine == pos.line) = true) :
    PE X (.Call (.Attribute a "split" apos) [b] [] pos) (tE X.K Ca W C g (.meth .split A [B])) :=
  (pe_split ha hb hs hbase hline).weak fun σ H Q h => str_meth (.inr (.inl rfl)) (fun z y σ H Q ⟨Z, G, μ, ρ, hv, rl, d, hd, h0⟩ => by
    obtain ⟨rv, e, h⟩ := h0.oM
    clear h0
    cases d with
    | str b =>
      simp only [methD] at e
      split at e
      · rename_i hz
        cases e
        refine ⟨z, b, rfl, by rw [hd.str], ?_, hz.2, ?_⟩
        · simpa using hz.1
        · exact newL rl.ok h (Reps.strs _)
      · cases e
    | _ => cases e) h
theorem pe_sindexx {apos : Pos} (ha : PE X a (tE X.K Ca W C g A)) (hb : PE X b (tE X.K Ca W C g B)) (hs : starEach [b] X.env = [(false, eval b X.env)]) (hbase : attributeBase a "index" X.env (eval a X.env) = eval a X.env) (hline : (apos.endLine == pos.line) = true) :
    PE X (.Call (.Attribute a "index" apos) [b] [] pos) (tE X.K Ca W C g (.meth .sindex A [B])) :=
  (pe_m1 F.slot_str_index F.type_str_index mt_sindex ha hb hs hbase hline).weak fun σ H Q h => str_meth (.inr (.inr rfl)) (fun z y σ H Q ⟨Z, G, μ, ρ, hv, rl, d, hd, h0⟩ => by
    obtain ⟨rv, e, h⟩ := h0.oM
    clear h0
    cases d with
    | str b =>
      simp only [methD] at e
      split at e
      · rename_i i r ho
        cases e
        exact ⟨z, b, i, r, rfl, by rw [hd.str], ho, same_of rl.ok h rInt⟩
      · cases e
    | _ => cases e) h
/-! ### a cell is written -/
theorem putCell {K : PySem.W.Frag} {G : Gh} {μ : Sto} {H : Hp} {n : Nat} {p : Addr} {c c' : Cell} {o : HO} (ok : Okk K Ca G μ H) (hp : G.φ[n]? = some p) (hc : μ[n]? = some c) (hd : c ≠ .dead) (h : Stay K G H G (upd H p o) → CellR K Ca G (upd H p o) c' p) :
    Ext G μ H G (μ.set n c') (upd H p o) ∧ Okk K Ca G (μ.set n c') (upd H p o) := by
  have lv : Lv G μ p := ⟨n, c, hp, hc, hd⟩
  obtain ⟨u, hu, mu⟩ := ok.mut lv
  have st : Stay K G H G (upd H p o) := ⟨fun _ _ h => h, fun _ h => h, fun b v e t => by
      have : b ≠ p := fun z => by
        rw [z, hu] at e; cases e
        obtain ⟨xs, t⟩ := t
        rcases mu with ⟨_, rfl⟩ | ⟨_, rfl⟩ | ⟨_, _, _, rfl⟩ <;> (rcases t with t | ⟨_, t⟩ <;> cases t)
      rw [upd_ne this]; exact e, fun b v e f => by
      have : b ≠ p := fun z => ok.nfz p lv (z ▸ f)
      rw [upd_ne this]; exact e⟩
  have hn : n < μ.length := (List.getElem?_eq_some_iff.mp hc).1
  have lv2 : ∀ b, Lv G (μ.set n c') b → Lv G μ b := fun b ⟨m, c2, q1, q2, q3⟩ => by
    by_cases e : m = n
    · rw [e, hp] at q1; cases q1; exact lv
    · rw [List.getElem?_set_ne (Ne.symm e)] at q2; exact ⟨m, c2, q1, q2, q3⟩
  refine ⟨⟨fun _ _ h => h, fun _ _ h => .inl h, fun _ h => h, fun _ h => .inl h, fun b v e nl => ?_, fun b e => ?_, fun b l => .inl (lv2 b l)⟩, ⟨by rw [List.length_set]; exact ok.len, ok.nd, fun m b e z => ?_, fun b l => ok.nfz b (lv2 b l), fun b f z => ?_, fun m c2 b q1 q2 => ?_⟩⟩
  · rw [upd_ne (fun z => nl (by rw [z]; exact lv))]; exact e
  · by_cases z : b = p
    · rw [z, upd_same] at e; cases e
    · rw [upd_ne z] at e; exact e
  · by_cases z2 : b = p
    · rw [z2, upd_same] at z; cases z
    · rw [upd_ne z2] at z; exact ok.ex m b e z
  · by_cases z2 : b = p
    · rw [z2, upd_same] at z; cases z
    · rw [upd_ne z2] at z; exact ok.fex b f z
  · by_cases e : m = n
    · rw [e] at q1 q2
      rw [hp] at q2; cases q2
      rw [List.getElem?_set_self hn] at q1; cases q1
      exact h st
    · rw [List.getElem?_set_ne (Ne.symm e)] at q1
      refine (ok.cell m c2 b q1 q2).step st fun v e2 => ?_
      rw [upd_ne (fun z => e (ok.nd m n b q2 (by rw [z]; exact hp)))]; exact e2
theorem chk_pop {m : Mth} {o : D} {μ : Sto} (hm : m = .pop ∨ m = .popAt) (h : chkM m o μ = some (.ok () μ)) : ∃ n xs, o = .ref n ∧ μ[n]? = some (.lst xs) := by
  rcases hm with rfl | rfl <;> (cases o <;> first | (simp [chkM] at h; done) | skip)
  · rename_i n
    refine ⟨n, ?_⟩
    simp only [chkM] at h
    split at h
    · exact ⟨_, rfl, by assumption⟩
    · cases h
  · rename_i n
    refine ⟨n, ?_⟩
    simp only [chkM] at h
    split at h
    · exact ⟨_, rfl, by assumption⟩
    · cases h
theorem getLast_ix {α : Type} {xs : List α} {x : α} (h : xs.getLast? = some x) : xs[xs.length - 1]? = some x := by
  rw [← List.getLast?_eq_getElem?]; exact h
theorem Reps.eraseIdx {K : PySem.W.Frag} {G : Gh} {H : Hp} : ∀ {ds : List D} {vs : List V} (i : Nat), Reps K G H ds vs → Reps K G H (ds.eraseIdx i) (vs.eraseIdx i)
  | [], _, i, h => by simp only [Reps] at h; subst h; simp [Reps]
  | _ :: _, _, 0, h => by
    simp only [Reps] at h
    obtain ⟨v, r, rfl, h1, h2⟩ := h
    exact h2
  | _ :: ds, _, i + 1, h => by
    simp only [Reps] at h
    obtain ⟨v, r, rfl, h1, h2⟩ := h
    exact Reps.cons h1 (Reps.eraseIdx i h2)
theorem pe_popp {apos : Pos} (ha : PE X a (tE X.K Ca W C g A)) (hbase : attributeBase a "pop" X.env (eval a X.env) = eval a X.env) (hline : (apos.endLine == pos.line) = true) :
    PE X (.Call (.Attribute a "pop" apos) [] [] pos) (tE X.K Ca W C g (.meth .pop A [])) :=
  (pe_bm0 F.plainAttrs_list F.slot_list_pop F.type_list_pop mt_pop ha hbase hline).weak fun σ H Q ⟨Z, G, μ, ρ, hv, rl, h⟩ => by
    rw [meth_eq0] at h
    refine tE_then RvR.mono rl h fun x v G1 μ1 H1 _ rl1 _ _ h => ?_
    obtain ⟨e1, h⟩ := h.chk
    obtain ⟨n, xs, ez, en⟩ := chk_pop (.inl rfl) e1
    have hx := rl1.hv _ List.mem_cons_self
    rw [ez] at hx h
    obtain ⟨p, rfl, hn, vs, h1, r1⟩ := rl1.cellAt hx en
    refine ⟨.inl ⟨rfl, vs, .inl (.inl h1)⟩, ?_⟩
    unfold At methM at h
    simp only [en] at h
    cases el : xs.getLast? with
    | none => simp only [el] at h
    | some d =>
      simp only [el] at h
      obtain ⟨y, hy, ry⟩ := r1.get (getLast_ix el)
      obtain ⟨e2, ok2⟩ := putCell (Ca := Ca) (c' := .lst xs.dropLast) (o := .lst vs.dropLast) rl1.ok hn en (by intro z; cases z) fun st => ⟨vs.dropLast, upd_same, st.reps _ _ r1.dropLast⟩
      exact ⟨p, vs, y, rfl, rfl, h1, by rw [← r1.length]; exact hy, h G1 y _ e2 ok2 ((e2.stay rl1.ok).rep _ _ ry)⟩
theorem pe_popAtt {apos : Pos} (ha : PE X a (tE X.K Ca W C g A)) (hb : PA X [b] (tBs X.K Ca W C g [B])) (hbase : attributeBase a "pop" X.env (eval a X.env) = eval a X.env)
    (hfew : ((backTo pos (starEach (b :: []) X.env)).all (fun x => !x.1) && (backToKw pos (keywordEach [] X.env)).all (fun x => x.1.isSome) && decide ((b :: []).length + ([] : List Keyword).length + (if ([] : List Keyword).isEmpty then 0 else 1) < 30)) = true)
    (hline : (apos.endLine == pos.line) = true) (hs : starEach [b] X.env = (false, eval b X.env) :: starEach [] X.env) (hpl : (backTo pos (starEach [] X.env)).any (·.1) = false) :
    PE X (.Call (.Attribute a "pop" apos) [b] [] pos) (tE X.K Ca W C g (.meth .popAt A [B])) :=
  (pe_bm F.plainAttrs_list F.slot_list_pop F.type_list_pop mt_popAt ha hb hbase hfew hline hs hpl).weak fun σ H Q ⟨Z, G, μ, ρ, hv, rl, h⟩ => by
    simp only [evalE] at h
    refine tE_then RvR.mono rl h fun x v G1 μ1 H1 _ rl1 _ _ h => ?_
    obtain ⟨e1, h⟩ := h.chk
    obtain ⟨n, xs, ez, en⟩ := chk_pop (.inr rfl) e1
    have hx := rl1.hv _ List.mem_cons_self
    rw [ez] at hx h
    obtain ⟨p, rfl, hn, vs, h1, r1⟩ := rl1.cellAt hx en
    refine ⟨.inl ⟨rfl, vs, .inl (.inl h1)⟩, ?_⟩
    refine tBs_then RvR.mono rl1 h fun ds us G2 μ2 H2 ex2 rl2 rs h => ?_
    have hx2 := rl2.hv _ List.mem_cons_self
    rw [ez] at hx2
    unfold At methM at h
    cases en2 : μ2[n]? with
    | none => simp only [en2] at h
    | some c =>
      cases c with
      | lst xs2 =>
        obtain ⟨p', e3, hn2, vs2, h2, r2⟩ := rl2.cellAt hx2 en2
        cases e3
        cases ds with
        | nil => simp only [en2] at h
        | cons d r =>
          cases r with
          | cons d2 r2 => cases d <;> simp only [en2] at h
          | nil =>
            cases d with
            | int i =>
              simp only [en2] at h
              obtain ⟨y, rfl, hy⟩ := rs.one
              rw [hy.int]
              by_cases hc : 0 ≤ i ∧ i < 2 ^ 62
              · rw [if_pos hc] at h
                cases ei : xs2[i.toNat]? with
                | none => simp only [ei] at h
                | some d =>
                  simp only [ei] at h
                  obtain ⟨y, hy, ry⟩ := r2.get ei
                  obtain ⟨e2, ok2⟩ := putCell (Ca := Ca) (c' := .lst (xs2.eraseIdx i.toNat)) (o := .lst (vs2.eraseIdx i.toNat)) rl2.ok hn2 en2 (by intro z; cases z) fun st => ⟨_, upd_same, st.reps _ _ (r2.eraseIdx _)⟩
                  have hlt : i.toNat < vs2.length := (List.getElem?_eq_some_iff.mp hy).1
                  refine ⟨p, vs2, i, i.toNat, y, rfl, rfl, h2, by omega, by omega, ?_, hy, h G2 y _ e2 ok2 ((e2.stay rl2.ok).rep _ _ ry)⟩
                  unfold seqIndex?
                  simp only [show ¬ i < 0 by omega, if_false]
                  rw [if_pos (by simp; omega)]
              · rw [if_neg hc] at h; exact h.elim
            | _ => simp only [en2] at h
      | _ => simp only [en2] at h
theorem pe_gett {k : Nat} {apos : Pos} (hr : Room k X.A) (ha : PE X a (tE X.K Ca W C g A)) (hb : PE X b (tE X.K Ca W C g B)) (hc : PE X c (tE X.K Ca W C g A2)) (m : M2 X a "get" apos b c pos) :
    PE X (.Call (.Attribute a "get" apos) [b, c] [] pos) (tE X.K Ca W C g (.meth .get A [B, A2])) :=
  (pe_dget2 (by have := hr.un; omega) ha hb hc m).weak fun σ H Q ⟨Z, G, μ, ρ, hv, rl, h⟩ => by
    rw [meth_eq2] at h
    refine tE_then RvR.mono rl h fun x v G1 μ1 H1 _ rl1 _ _ h => ?_
    obtain ⟨e1, h⟩ := h.chk
    have hx := rl1.hv _ List.mem_cons_self
    obtain ⟨n, kvs, ez, en⟩ : ∃ n kvs, x.d = .ref n ∧ μ1[n]? = some (.dct kvs) := by
      cases e : x.d <;> rw [e] at e1 <;> first | (simp [chkM] at e1; done) | skip
      rename_i n
      refine ⟨n, ?_⟩
      simp only [chkM] at e1
      split at e1
      · exact ⟨_, rfl, by assumption⟩
      · cases e1
    rw [ez] at hx
    obtain ⟨p, rfl, hn, vs, h1, r1⟩ := rl1.cellAt hx en
    refine ⟨p, rfl, .inl ⟨vs, .inl h1⟩, ?_⟩
    refine tE_then RvR.mono rl1 h fun y u G2 μ2 H2 _ rl2 _ _ h => ?_
    refine tE_then RvR.mono rl2 h fun z w G3 μ3 H3 _ rl3 wv _ h => ?_
    have hx3 := rl3.hv _ (List.mem_cons_of_mem _ (List.mem_cons_of_mem _ List.mem_cons_self))
    have hy3 := rl3.hv _ (List.mem_cons_of_mem _ List.mem_cons_self)
    have hz3 := rl3.hv _ List.mem_cons_self
    rw [ez] at hx3 h
    unfold At methM at h
    cases en3 : μ3[n]? with
    | none => simp only [en3] at h
    | some c =>
      cases c with
      | dct kvs3 =>
        obtain ⟨p', e3, hn3, vs3, h3, r3⟩ := rl3.cellAt hx3 en3
        cases e3
        simp only [en3] at h
        cases ek : keyD y.d with
        | none => simp only [ek, Option.bind_none] at h
        | some k =>
          simp only [ek, Option.bind_some] at h
          have ey := hy3.key ek
          obtain ⟨hl, h⟩ : notL z.d = true ∧ _ := by
            cases q : notL z.d with
            | false => rw [q] at h; exact h.elim
            | true => rw [q] at h; exact ⟨rfl, h⟩
          have rz : Rep X.K G3 H3 z.d w := by
            rcases hz3 with q | ⟨_, _, _, _, q⟩
            · exact q
            · have q : z.d = _ := q
              rw [q] at hl; cases hl
          refine ⟨valV vs3 k, .inl ⟨vs3, k, .inl h3, ey, rfl⟩, h G3 _ H3 (Ext.refl _ _ _) rl3.ok ?_⟩
          obtain ⟨f1, f2⟩ := KvR.find k r3
          cases ef : findK kvs3 k with
          | none => rw [f2 ef]; exact rz
          | some d => obtain ⟨v, e4, r4⟩ := f1 d ef; rw [e4]; exact r4
      | _ => simp only [en3] at h
end
end J
/-! what a loop walks; targets. -/
namespace L2
open PySem PySem.Spec PyProof.Rows
theorem PI.weak {X : Cx} {tg e : Expr} {t t' : TI} (h : PI X tg e t) (w : ∀ σ H Q, t' σ H Q → t σ H Q) : PI X tg e t' := ⟨fun pins s σ H Q I q => h.run pins s σ H Q I (w σ H Q q)⟩
theorem PG.weak {X : Cx} {e : Expr} {t t' : TG} (h : PG X e t) (w : ∀ v σ H Q, t' v σ H Q → t v σ H Q) : PG X e t' := ⟨fun pins s σ H v u Q I r q => h.run pins s σ H v u Q I r (w v σ H Q q)⟩
theorem PGs.weak {X : Cx} {e : List Expr} {t t' : TGs} (h : PGs X e t) (w : ∀ v σ H Q, t' v σ H Q → t v σ H Q) : PGs X e t' := ⟨fun pins s σ H v u Q I r q => h.run pins s σ H v u Q I r (w v σ H Q q)⟩
/-- a list, a tuple, a text -/
def iVal (K : PySem.W.Frag) (te : TE) : TI := fun σ H R => te σ H fun x H1 => (∃ a xs, x = .ref a ∧ SqL K H1 a xs ∧ R (Itl K a) H1) ∨ (∃ a xs, x = .ref a ∧ SqT K H1 a xs ∧ R (Itt K a) H1) ∨ ∃ z, x = .str z ∧ R (Its z) H1
theorem pi_val {X : Cx} {tg e : Expr} {te : TE} (he : PE X e te) : PI X tg e (iVal X.K te) := by
  refine ⟨fun pins s σ H R I h => ?_⟩
  refine thn (he.run pins s σ H _ I h) fun v s1 ⟨x, H1, I1, r1, q1⟩ => ?_
  have one : ∀ b, b ∈ [s1.heap.objs.size] → FpOk X pins H1 b := fun b hb => by
    rw [List.mem_singleton.mp hb]; exact I1.fpOk (Nat.le_refl _) (I1.hok.fresh (Nat.le_refl _))
  rcases q1 with ⟨a, xs, rfl, hq, q⟩ | ⟨a, xs, rfl, hq, q⟩ | ⟨z, rfl, q⟩
  · cases r1
    obtain ⟨its, rv, p, hz⟩ := I1.list hq
    exact wpAny_pyIter_list p.isList ⟨s1.heap.objs.size, [s1.heap.objs.size], _, _, H1, rfl, I1.kept (t' := s1.toks) fun b o e => Heap.get?_push_of_some _ e, turn_list a _, ⟨_, Heap.get?_push_size _ rfl, rfl, rfl⟩, one, q⟩
  · cases r1
    obtain ⟨its, rv, p, hz⟩ := I1.tuple hq
    exact wpAny_pyIter_tuple (show s1.heap.IsTuple a its.toArray from p) ⟨s1.heap.objs.size, [s1.heap.objs.size], _, _, H1, rfl, I1.kept (t' := s1.toks) fun b o e => Heap.get?_push_of_some _ e, turn_tuple a _, ⟨_, Heap.get?_push_size _ rfl, rfl, rfl⟩, one, q⟩
  · obtain ⟨t, rfl⟩ := r1
    cases ha : z.cps.all (· < 128)
    · exact wpAny_pyIter_wide ha (pi_one (tk := s1.toks) I1 _ (turn_str _ z t "str_iterator" (.inr rfl)) ⟨_, Heap.get?_push_size _ rfl, rfl, rfl⟩ q)
    · exact wpAny_pyIter_ascii ha (pi_one (tk := s1.toks) I1 _ (turn_str _ z t "str_ascii_iterator" (.inl rfl)) ⟨_, Heap.get?_push_size _ rfl, rfl, rfl⟩ q)
end L2
namespace J
open PySem L2 PySem.Spec PyProof.Rows
/-- the iterator walks these data -/
def Wk (K : PySem.W.Frag) (Ca : Str → Addr) (G0 : Gh) (H0 : Hp) (J : It) (ds : List D) : Prop := ∀ i G μ H, Stay K G0 H0 G H → Okk K Ca G μ H →
  (ds.length ≤ i → J.stop i H) ∧ ∀ d, ds[i]? = some d → J.go i H ∧ ∀ x H', J.yld i H x H' → ∃ G', Ext G μ H G' μ H' ∧ Okk K Ca G' μ H' ∧ Rep K G' H' d x
def RW (K : PySem.W.Frag) (Ca : Str → Addr) : Gh → Hp → Hp → List D → It → Prop := fun G' _ H' ds J => Wk K Ca G' H' J ds
theorem RW.mono {K : PySem.W.Frag} {Ca : Str → Addr} : Mono (RW K Ca) := fun _ _ _ _ _ _ _ r => r
def evalW (C : Calls) (g : List D) (it : E) (ρ : Env) : M (List D) := M.bind (evalE C g it ρ) fun x => match x with
  | .bo _ _ => stuck
  | _ => oM (walkD x.d)
def tI (K : PySem.W.Frag) (Ca : Str → Addr) (W : WX) (C : Calls) (g : List D) (it : E) : TI := fun σ H R => ∃ Z G μ ρ hv, Rl K Ca Z G μ ρ hv σ H ∧ At K Ca W (RW K Ca) σ G μ H (evalW C g it ρ) R
section
variable {X : Cx} {Ca : Str → Addr} {W : WX} {C : Calls} {g : List D} {a b c tg : Expr} {A B A2 : E} {pos : Pos} {es : List Expr} {Es : List E}
/-- the list behind a reading may only be read -/
theorem wk_list {K : PySem.W.Frag} {G : Gh} {H : Hp} {p : Addr} {vs : List V} {ds : List D} (h : LsR G H p vs) (r : Reps K G H ds vs) : Wk K Ca G H (Itl K p) ds := fun i G1 μ1 H1 st ok1 => by
  have h1 := st.ls h
  have r1 := st.reps _ _ r
  refine ⟨fun hi => ⟨vs, h1.sq, by rw [← r.length]; exact hi⟩, fun d hd => ?_⟩
  obtain ⟨v, hv, rv⟩ := r1.get hd
  refine ⟨⟨vs, v, h1.sq, hv⟩, fun x H' y => ?_⟩
  obtain ⟨rfl, y⟩ := y
  have := y vs h1.sq
  rw [hv] at this; cases this
  exact ⟨G1, Ext.refl _ _ _, ok1, rv⟩
theorem wk_tup {K : PySem.W.Frag} {G : Gh} {H : Hp} {p : Addr} {vs : List V} {ds : List D} (h : SqT K H p vs) (r : Reps K G H ds vs) : Wk K Ca G H (Itt K p) ds := fun i G1 μ1 H1 st ok1 => by
  have h1 := st.sqT h
  have r1 := st.reps _ _ r
  refine ⟨fun hi => ⟨vs, h1, by rw [← r.length]; exact hi⟩, fun d hd => ?_⟩
  obtain ⟨v, hv, rv⟩ := r1.get hd
  refine ⟨⟨vs, v, h1, hv⟩, fun x H' y => ?_⟩
  obtain ⟨rfl, y⟩ := y
  have := y vs h1
  rw [hv] at this; cases this
  exact ⟨G1, Ext.refl _ _ _, ok1, rv⟩
theorem wk_str {K : PySem.W.Frag} {G : Gh} {H : Hp} {z : Str} : Wk K Ca G H (Its z) (z.cps.toList.map strD) := fun i G1 μ1 H1 e ok1 => by
  refine ⟨fun hi => by simpa [Its] using hi, fun d hd => ?_⟩
  rw [List.getElem?_map, Array.getElem?_toList] at hd
  cases q : z.cps[i]? with
  | none => rw [q] at hd; cases hd
  | some c =>
    rw [q] at hd; cases hd
    refine ⟨(Array.getElem?_eq_some_iff.mp q).1, fun x H' y => ?_⟩
    obtain ⟨rfl, c', q', rfl⟩ := y
    rw [q] at q'; cases q'
    exact ⟨G1, Ext.refl _ _ _, ok1, by simp only [strD, Rep]⟩
theorem wk_rng {K : PySem.W.Frag} {G : Gh} {H : Hp} {lo : Int} {n : Nat} : Wk K Ca G H (Itr lo n) ((List.range n).map fun (i : Nat) => D.int (lo + (i : Int))) := fun i G1 μ1 H1 e ok1 => by
  refine ⟨fun hi => by simpa [Itr] using hi, fun d hd => ?_⟩
  rw [List.getElem?_map] at hd
  by_cases hi : i < n
  · rw [List.getElem?_range hi] at hd; cases hd
    refine ⟨hi, fun x H' y => ?_⟩
    obtain ⟨rfl, rfl⟩ := y
    exact ⟨G1, Ext.refl _ _ _, ok1, by simp only [Rep]⟩
  · rw [List.getElem?_eq_none (by simpa using hi)] at hd; cases hd
theorem enumD_get : ∀ (ds : List D) (n i : Nat), (enumD n ds)[i]? = (ds[i]?).map fun d => .tup [.int ((n + i : Nat) : Int), d]
  | [], n, i => by simp [enumD]
  | d :: ds, n, 0 => by simp [enumD]
  | d :: ds, n, i + 1 => by simp only [enumD, List.getElem?_cons_succ]; rw [enumD_get ds (n + 1) i]; rw [show n + 1 + i = n + (i + 1) by omega]
theorem enumD_length : ∀ (ds : List D) (n : Nat), (enumD n ds).length = ds.length
  | [], _ => rfl
  | _ :: ds, n => by simp only [enumD, List.length_cons]; rw [enumD_length ds]
/-- a new pair -/
theorem newPair {K : PySem.W.Frag} {G : Gh} {μ : Sto} {H : Hp} {T : Addr} {x y : V} {d e : D} (ok : Okk K Ca G μ H) (hT : H T = none) (rx : Rep K G H d x) (ry : Rep K G H e y) :
    ∃ G', Ext G μ H G' μ (upd H T (.tup [x, y])) ∧ Okk K Ca G' μ (upd H T (.tup [x, y])) ∧ Rep K G' (upd H T (.tup [x, y])) (.tup [d, e]) (.ref T) := by
  have e1 := Ext.fresh (o := .tup [x, y]) ok hT
  have st := e1.stay ok
  refine ⟨G, e1, ok.fresh hT, ?_⟩
  simp only [Rep]
  exact ⟨T, _, rfl, .inl (.inl upd_same), Reps.cons (st.rep _ _ rx) (.one (st.rep _ _ ry))⟩
theorem wk_enum {K : PySem.W.Frag} {G : Gh} {H : Hp} {p : Addr} {vs : List V} {ds : List D} (h : LsR G H p vs) (r : Reps K G H ds vs) : Wk K Ca G H (Ite K p) (enumD 0 ds) := fun i G1 μ1 H1 st ok1 => by
  have h1 := st.ls h
  have r1 := st.reps _ _ r
  refine ⟨fun hi => ⟨vs, h1.sq, by rw [enumD_length] at hi; rw [← r.length]; exact hi⟩, fun d hd => ?_⟩
  rw [enumD_get] at hd
  obtain ⟨d0, hd0, rfl⟩ := Option.map_eq_some_iff.mp hd
  obtain ⟨v, hv, rv⟩ := r1.get hd0
  refine ⟨⟨vs, v, h1.sq, hv⟩, fun x H' y => ?_⟩
  obtain ⟨T, x0, rfl, hT, rfl, y⟩ := y
  have := y vs h1.sq
  rw [hv] at this; cases this
  rw [show ((0 + i : Nat) : Int) = (i : Int) by omega]
  exact newPair ok1 hT (by simp only [Rep]) rv
theorem zipD_get : ∀ (ds es : List D) (i : Nat) (d : D), (zipD ds es)[i]? = some d → ∃ x y, ds[i]? = some x ∧ es[i]? = some y ∧ d = .tup [x, y]
  | [], _, i, d, h => by simp [zipD] at h
  | _ :: _, [], i, d, h => by simp [zipD] at h
  | a :: as, b :: bs, 0, d, h => by simp only [zipD, List.getElem?_cons_zero, Option.some.injEq] at h; exact ⟨a, b, rfl, rfl, h.symm⟩
  | a :: as, b :: bs, i + 1, d, h => by
    simp only [zipD, List.getElem?_cons_succ] at h
    obtain ⟨x, y, h1, h2, h3⟩ := zipD_get as bs i d h
    exact ⟨x, y, by simpa using h1, by simpa using h2, h3⟩
theorem zipD_length : ∀ (ds es : List D), (zipD ds es).length = min ds.length es.length
  | [], _ => by simp [zipD]
  | _ :: _, [] => by simp [zipD]
  | a :: as, b :: bs => by simp only [zipD, List.length_cons]; rw [zipD_length as bs]; omega
theorem wk_zip {K : PySem.W.Frag} {G : Gh} {H : Hp} {p q : Addr} {vs ws : List V} {ds es : List D} (h : LsR G H p vs) (k : LsR G H q ws) (r : Reps K G H ds vs) (t : Reps K G H es ws) : Wk K Ca G H (Itz K p q) (zipD ds es) := fun i G1 μ1 H1 st ok1 => by
  have h1 := st.ls h
  have k1 := st.ls k
  refine ⟨fun hi => ⟨vs, ws, h1.sq, k1.sq, by rw [zipD_length] at hi; rw [← r.length, ← t.length]; omega⟩, fun d hd => ?_⟩
  obtain ⟨d1, d2, e1, e2, rfl⟩ := zipD_get _ _ _ _ hd
  obtain ⟨v, hv, rv⟩ := (st.reps _ _ r).get e1
  obtain ⟨u, hu, ru⟩ := (st.reps _ _ t).get e2
  refine ⟨⟨vs, ws, v, u, h1.sq, k1.sq, hv, hu⟩, fun x H' y => ?_⟩
  obtain ⟨T, x0, y0, rfl, hT, rfl, y1, y2⟩ := y
  have := y1 vs h1.sq
  rw [hv] at this; cases this
  have := y2 ws k1.sq
  rw [hu] at this; cases this
  exact newPair ok1 hT rv ru
theorem wk_zipT {K : PySem.W.Frag} {G : Gh} {H : Hp} {p q : Addr} {vs ws : List V} {ds es : List D} (h : SqT K H p vs) (k : SqT K H q ws) (r : Reps K G H ds vs) (t : Reps K G H es ws) : Wk K Ca G H (RZ.ItzT K p q) (zipD ds es) := fun i G1 μ1 H1 st ok1 => by
  have h1 := st.sqT h
  have k1 := st.sqT k
  refine ⟨fun hi => ⟨vs, ws, h1, k1, by rw [zipD_length] at hi; rw [← r.length, ← t.length]; omega⟩, fun d hd => ?_⟩
  obtain ⟨d1, d2, e1, e2, rfl⟩ := zipD_get _ _ _ _ hd
  obtain ⟨v, hv, rv⟩ := (st.reps _ _ r).get e1
  obtain ⟨u, hu, ru⟩ := (st.reps _ _ t).get e2
  refine ⟨⟨vs, ws, v, u, h1, k1, hv, hu⟩, fun x H' y => ?_⟩
  obtain ⟨T, x0, y0, rfl, hT, rfl, y1, y2⟩ := y
  have := y1 vs h1
  rw [hv] at this; cases this
  have := y2 ws k1
  rw [hu] at this; cases this
  exact newPair ok1 hT rv ru
theorem rev_get {α : Type} {xs : List α} {i : Nat} {d : α} (h : xs.reverse[i]? = some d) : i < xs.length ∧ xs[xs.length - 1 - i]? = some d := by
  have hi : i < xs.length := by simpa using (List.getElem?_eq_some_iff.mp h).1
  rw [List.getElem?_reverse hi] at h
  exact ⟨hi, h⟩
theorem wk_rev {K : PySem.W.Frag} {G : Gh} {H : Hp} {p : Addr} {vs : List V} {ds : List D} (h : LsR G H p vs) (r : Reps K G H ds vs) : Wk K Ca G H (Itv K p vs.length) ds.reverse := fun i G1 μ1 H1 st ok1 => by
  have h1 := st.ls h
  refine ⟨fun hi => by rw [List.length_reverse, r.length] at hi; exact hi, fun d hd => ?_⟩
  obtain ⟨hi, hd⟩ := rev_get hd
  obtain ⟨v, hv, rv⟩ := (st.reps _ _ r).get hd
  rw [r.length] at hv hi
  refine ⟨⟨hi, vs, v, h1.sq, hv⟩, fun x H' y => ?_⟩
  obtain ⟨rfl, y⟩ := y
  have := y vs h1.sq
  rw [hv] at this; cases this
  exact ⟨G1, Ext.refl _ _ _, ok1, rv⟩
theorem wk_revT {K : PySem.W.Frag} {G : Gh} {H : Hp} {p : Addr} {vs : List V} {ds : List D} (h : SqT K H p vs) (r : Reps K G H ds vs) : Wk K Ca G H (RT.ItvT K p vs.length) ds.reverse := fun i G1 μ1 H1 st ok1 => by
  have h1 := st.sqT h
  refine ⟨fun hi => by rw [List.length_reverse, r.length] at hi; exact hi, fun d hd => ?_⟩
  obtain ⟨hi, hd⟩ := rev_get hd
  obtain ⟨v, hv, rv⟩ := (st.reps _ _ r).get hd
  rw [r.length] at hv hi
  refine ⟨⟨hi, vs, v, h1, hv⟩, fun x H' y => ?_⟩
  obtain ⟨rfl, y⟩ := y
  have := y vs h1
  rw [hv] at this; cases this
  exact ⟨G1, Ext.refl _ _ _, ok1, rv⟩
/-! ### what is walked, as text -/
def isI : E → Bool
  | .irng _ => true | .irng2 _ _ => true | .ienum _ => true | .izip _ _ => true | .izip3 _ _ _ => true | .irev _ => true | _ => false
theorem lsR_of {K : PySem.W.Frag} {G : Gh} {H : Hp} {ds : List D} {x : V} (h : Rep K G H (.lst ds) x) : ∃ p vs, x = .ref p ∧ LsR G H p vs ∧ Reps K G H ds vs := by simpa only [Rep] using h
theorem tpR_of {K : PySem.W.Frag} {G : Gh} {H : Hp} {ds : List D} {x : V} (h : Rep K G H (.tup ds) x) : ∃ p vs, x = .ref p ∧ SqT K H p vs ∧ Reps K G H ds vs := by simpa only [Rep] using h
theorem walk_end {K : PySem.W.Frag} {σ : St} {G : Gh} {μ : Sto} {H : Hp} {ds : List D} {R : It → Hp → Prop} {J : It} (ok : Okk K Ca G μ H) (h : At K Ca W (RW K Ca) σ G μ H (M.pure ds) R) (w : Wk K Ca G H J ds) : R J H :=
  h G J H (Ext.refl _ _ _) ok w
theorem pi_plain (ha : PE X a (tE X.K Ca W C g A)) : PI X tg a (tI X.K Ca W C g A) :=
  (pi_val ha).weak fun σ H Q ⟨Z, G, μ, ρ, hv, rl, h⟩ => by
    unfold evalW at h
    refine tE_then RW.mono rl h fun x v G1 μ1 H1 _ rl1 vv _ h => ?_
    have key : ∀ d, x.val = some d → At X.K Ca W (RW X.K Ca) σ G1 μ1 H1 (oM (walkD d)) Q → ((∃ a xs, v = .ref a ∧ SqL X.K H1 a xs ∧ Q (Itl X.K a) H1) ∨ (∃ a xs, v = .ref a ∧ SqT X.K H1 a xs ∧ Q (Itt X.K a) H1) ∨ ∃ z, v = .str z ∧ Q (Its z) H1) := fun d ed h0 => by
      have rd := vv d ed
      obtain ⟨ds, e, h⟩ := h0.oM
      clear h0
      cases d with
      | lst ds' =>
        cases e
        obtain ⟨p, vs, rfl, h1, r1⟩ := lsR_of rd
        exact Or.inl ⟨p, vs, rfl, h1.sq, walk_end rl1.ok h (wk_list h1 r1)⟩
      | tup ds' =>
        cases e
        obtain ⟨p, vs, rfl, h1, r1⟩ := tpR_of rd
        exact Or.inr (.inl ⟨p, vs, rfl, h1, walk_end rl1.ok h (wk_tup h1 r1)⟩)
      | str z =>
        cases e
        have : v = .str z := by simpa only [Rep] using rd
        exact Or.inr (.inr ⟨z, this, walk_end rl1.ok h (wk_str)⟩)
      | _ => cases e
    cases x with
    | v d => exact key d rfl h
    | fr ds => exact key (.lst ds) rfl h
    | bo i ds => exact False.elim h
theorem At.iteb {K : PySem.W.Frag} {σ : St} {G : Gh} {μ : Sto} {H : Hp} {α β γ : Type} {R : Gh → Hp → Hp → γ → β → Prop} {c : Prop} [Decidable c] {m : M α} {k : α → M γ} {Q : β → Hp → Prop} (h : At K Ca W R σ G μ H (M.bind (if c then m else stuck) k) Q) : c ∧ At K Ca W R σ G μ H (M.bind m k) Q := by
  by_cases hc : c
  · rw [if_pos hc] at h; exact ⟨hc, h⟩
  · rw [if_neg hc] at h; exact False.elim h
theorem pi_rng {p : Pos} (hg : Gl X "range") (hm : X.mg "range" = none) (ha : PA X [a] (tBs X.K Ca W C g [A])) (hs : starEach [a] X.env = [(false, eval a X.env)]) : PI X tg (.Call (.Name "range" p) [a] [] pos) (tI X.K Ca W C g (.irng A)) :=
  (pi_range1 hg hm ha hs).weak fun σ H Q ⟨Z, G, μ, ρ, hv, rl, h⟩ => by
    unfold evalW at h
    simp only [evalE, M.bind_assoc] at h
    have h : At X.K Ca W (RW X.K Ca) σ G μ H (M.bind (evalBs C g [A] ρ) fun ds => match ds with
      | [d] => M.bind (oM (intO d)) fun n => M.bind (if -(2 ^ 62) ≤ n ∧ n < 2 ^ 62 then M.pure (RV.v (.lst ((List.range n.toNat).map fun (i : Nat) => .int (0 + (i : Int))))) else stuck) fun x => match x with
        | .bo _ _ => stuck
        | _ => oM (walkD x.d)
      | _ => stuck) Q := by
        simp only [evalBs, M.bind_assoc, M.pure_bind]
        exact h
    refine tBs_then RW.mono rl h fun ds us G1 μ1 H1 _ rl1 rs h => ?_
    cases ds with
    | nil => exact False.elim h
    | cons d r =>
      cases r with
      | cons d2 r => exact False.elim h
      | nil =>
        obtain ⟨y, rfl, hy⟩ := rs.one
        obtain ⟨n, en, h2⟩ := h.oMb
        clear h
        cases d <;> cases en
        rw [hy.int]
        obtain ⟨hc, h2⟩ := h2.iteb
        exact ⟨n, rfl, hc.1, hc.2, walk_end rl1.ok h2 (wk_rng)⟩
theorem pi_enm {p tpos : Pos} {elts : List Expr} {kk : Nat} (hg : Gl X "enumerate") (hm : X.mg "enumerate" = none) (ha : PA X [a] (tAs X.K Ca W C g [A])) (hs : starEach [a] X.env = [(false, eval a X.env)]) :
    PI X (.Tuple elts kk tpos) (.Call (.Name "enumerate" p) [a] [] pos) (tI X.K Ca W C g (.ienum A)) :=
  (pi_enum hg hm ha hs).weak fun σ H Q ⟨Z, G, μ, ρ, hv, rl, h⟩ => by
    unfold evalW at h
    simp only [evalE, M.bind_assoc] at h
    have h : At X.K Ca W (RW X.K Ca) σ G μ H (M.bind (evalEs C g [A] ρ) fun ds => match ds with
      | [d] => M.bind (oM (listD d)) fun ds => M.bind (M.pure (RV.v (.lst (enumD 0 ds)))) fun x => match x with
        | .bo _ _ => stuck
        | _ => oM (walkD x.d)
      | _ => stuck) Q := by
        simp only [evalEs, M.bind_assoc, M.pure_bind]
        exact h
    refine tAs_then RW.mono rl h fun ds us G1 μ1 H1 _ rl1 rs h => ?_
    cases ds with
    | nil => exact False.elim h
    | cons d r =>
      cases r with
      | cons d2 r => exact False.elim h
      | nil =>
        simp only [Reps] at rs
        obtain ⟨y, _, rfl, hy, rfl⟩ := rs
        obtain ⟨n, en, h2⟩ := h.oMb
        clear h
        cases d <;> cases en
        obtain ⟨p, vs, rfl, h1, r1⟩ := lsR_of hy
        exact ⟨p, vs, rfl, h1.sq, walk_end rl1.ok h2 (wk_enum h1 r1)⟩
theorem pi_zipp {p tpos : Pos} {elts : List Expr} {kk : Nat} (hg : Gl X "zip") (hm : X.mg "zip" = none) (ha : PA X [a, b] (tAs X.K Ca W C g [A, B]))
    (hs : starEach [a, b] X.env = (false, eval a X.env) :: starEach [b] X.env) (hpl : (backTo pos (starEach [b] X.env)).any (·.1) = false) :
    PI X (.Tuple elts kk tpos) (.Call (.Name "zip" p) [a, b] [] pos) (tI X.K Ca W C g (.izip A B)) :=
  (RZ.pi_zipA hg hm ha hs hpl).weak fun σ H Q ⟨Z, G, μ, ρ, hv, rl, h⟩ => by
    unfold evalW at h
    simp only [evalE, M.bind_assoc] at h
    have h : At X.K Ca W (RW X.K Ca) σ G μ H (M.bind (evalEs C g [A, B] ρ) fun ds => match ds with
      | [d, d'] => M.bind (oM (twoD d d')) fun p => M.bind (M.pure (RV.v (.lst (zipD p.1 p.2)))) fun x => match x with
        | .bo _ _ => stuck
        | _ => oM (walkD x.d)
      | _ => stuck) Q := by
        simp only [evalEs, M.bind_assoc, M.pure_bind]
        exact h
    refine tAs_then RW.mono rl h fun ds us G1 μ1 H1 _ rl1 rs h => ?_
    cases ds with
    | nil => exact False.elim h
    | cons d r =>
      cases r with
      | nil => exact False.elim h
      | cons d2 r =>
        cases r with
        | cons d3 r => exact False.elim h
        | nil =>
          simp only [Reps] at rs
          obtain ⟨y, _, rfl, hy, z, _, rfl, hz, rfl⟩ := rs
          obtain ⟨n, en, h9⟩ := h.oMb
          clear h
          unfold twoD at en
          split at en
          · cases en
            obtain ⟨p, vs, rfl, h1, r1⟩ := lsR_of hy
            obtain ⟨q, ws, rfl, h2, r2⟩ := lsR_of hz
            exact ⟨p, q, vs, ws, rfl, .inl ⟨h1.sq, h2.sq, walk_end rl1.ok h9 (wk_zip h1 h2 r1 r2)⟩⟩
          · cases en
            obtain ⟨p, vs, rfl, h1, r1⟩ := tpR_of hy
            obtain ⟨q, ws, rfl, h2, r2⟩ := tpR_of hz
            exact ⟨p, q, vs, ws, rfl, .inr ⟨h1, h2, walk_end rl1.ok h9 (wk_zipT h1 h2 r1 r2)⟩⟩
          · cases en
theorem pi_revv {p : Pos} (hg : Gl X "reversed") (hm : X.mg "reversed" = none) (ha : PE X a (tE X.K Ca W C g A)) (hs : starEach [a] X.env = (false, eval a X.env) :: starEach [] X.env) :
    PI X tg (.Call (.Name "reversed" p) [a] [] pos) (tI X.K Ca W C g (.irev A)) :=
  (RT.pi_revA hg hm ha hs).weak fun σ H Q ⟨Z, G, μ, ρ, hv, rl, h⟩ => by
    unfold evalW at h
    simp only [evalE, M.bind_assoc] at h
    refine tE_then RW.mono rl h fun x v G1 μ1 H1 _ rl1 vv _ h => ?_
    obtain ⟨d, ed, h⟩ := val_of h
    have rd := vv d ed
    obtain ⟨ds, e, h9⟩ := h.oMb
    clear h
    cases d with
    | lst ds' =>
      cases e
      obtain ⟨p, vs, rfl, h1, r1⟩ := lsR_of rd
      exact ⟨p, vs, rfl, Or.inl ⟨h1.sq, walk_end rl1.ok h9 (wk_rev h1 r1)⟩⟩
    | tup ds' =>
      cases e
      obtain ⟨p, vs, rfl, h1, r1⟩ := tpR_of rd
      exact ⟨p, vs, rfl, Or.inr ⟨h1, walk_end rl1.ok h9 (wk_revT h1 r1)⟩⟩
    | _ => cases e
end
end J
/-! targets, comprehensions. -/
namespace L2
open PySem PySem.Spec PyProof.Rows
theorem PTs.weak {X : Cx} {e : List Expr} {t t' : TT} (h : PTs X e t) (w : ∀ σ H Q, t' σ H Q → t σ H Q) : PTs X e t' := ⟨fun pins s σ H Q I q => h.run pins s σ H Q I (w σ H Q q)⟩
end L2
namespace J
open PySem L2 PySem.Spec PyProof.Rows
mutual
def T.sl : T → List Nat
  | .nm i => [i]
  | .tp ts => slTs ts
def slTs : List T → List Nat
  | [] => []
  | t :: ts => t.sl ++ slTs ts
end
section
variable {K : PySem.W.Frag} {Ca : Str → Addr} {Z : Ent} {G G' : Gh} {μ μ' : Sto} {ρ : Env} {hv : List (D × V)} {σ : St} {H H' : Hp}
theorem Rl.setVal {i : Nat} {d : D} {x : V} (rl : Rl K Ca Z G μ ρ hv σ H) (r : Rep K G H d x) (hi : i < ρ.length) : Rl K Ca Z G μ (ρ.set i (.val d)) [] (σ.set i (some x)) H := by
  have hs : i < σ.length := by rw [← rl.sl.len]; exact hi
  have no : ∀ (j : Nat) (es : List D), (ρ.set i (.val d))[j]? = some (.own es) → j ≠ i ∧ ρ[j]? = some (.own es) ∧ (σ.set i (some x))[j]? = σ[j]? := fun j es h => by
    by_cases e : j = i
    · rw [e, List.getElem?_set_self hi] at h; cases h
    · rw [List.getElem?_set_ne (Ne.symm e)] at h ⊢; exact ⟨e, h, rfl⟩
  refine ⟨rl.ext, rl.ok, ⟨by rw [List.length_set, List.length_set]; exact rl.sl.len, fun j d' h => ?_, fun j es h => ?_, fun j k a es fs h1 h2 h3 h4 => ?_⟩, fun p hp => (by cases hp), rl.anc⟩
  · by_cases e : j = i
    · rw [e, List.getElem?_set_self hi] at h; cases h
      exact ⟨x, by rw [e, List.getElem?_set_self hs], r⟩
    · rw [List.getElem?_set_ne (Ne.symm e)] at h ⊢; exact rl.sl.val j d' h
  · obtain ⟨_, h1, h2⟩ := no j es h
    rw [h2]; exact rl.sl.own j es h1
  · obtain ⟨_, q1, q2⟩ := no j es h1
    obtain ⟨_, q3, q4⟩ := no k fs h2
    rw [q2] at h3; rw [q4] at h4
    exact rl.sl.dis j k a es fs q1 q3 h3 h4
theorem Rl.setNone {i : Nat} (rl : Rl K Ca Z G μ ρ [] σ H) : Rl K Ca Z G μ (ρ.set i .none) [] (σ.set i none) H := by
  have no : ∀ (j : Nat) (s : Slot), s ≠ .none → (ρ.set i .none)[j]? = some s → j ≠ i ∧ ρ[j]? = some s ∧ (σ.set i none)[j]? = σ[j]? := fun j s hs h => by
    by_cases e : j = i
    · rw [e] at h
      by_cases hi : i < ρ.length
      · rw [List.getElem?_set_self hi] at h; cases h; exact absurd rfl hs
      · rw [List.getElem?_eq_none (by rw [List.length_set]; omega)] at h; cases h
    · rw [List.getElem?_set_ne (Ne.symm e)] at h ⊢; exact ⟨e, h, rfl⟩
  refine ⟨rl.ext, rl.ok, ⟨by rw [List.length_set, List.length_set]; exact rl.sl.len, fun j d' h => ?_, fun j es h => ?_, fun j k a es fs h1 h2 h3 h4 => ?_⟩, fun p hp => (by cases hp), rl.anc⟩
  · obtain ⟨_, h1, h2⟩ := no j _ (by intro z; cases z) h
    rw [h2]; exact rl.sl.val j d' h1
  · obtain ⟨_, h1, h2⟩ := no j _ (by intro z; cases z) h
    rw [h2]; exact rl.sl.own j es h1
  · obtain ⟨_, q1, q2⟩ := no j _ (by intro z; cases z) h1
    obtain ⟨_, q3, q4⟩ := no k _ (by intro z; cases z) h2
    rw [q2] at h3; rw [q4] at h4
    exact rl.sl.dis j k a es fs q1 q3 h3 h4
theorem Rl.wipe (rl : Rl K Ca Z G μ ρ hv σ H) : ∀ vs : List Nat, Rl K Ca Z G μ (wipeS ρ vs) [] (L2.wipe σ vs) H
  | [] => rl.drop fun p hp => by cases hp
  | v :: vs => by
    unfold wipeS L2.wipe
    exact (Rl.wipe rl vs).setNone
end
def gT (K : PySem.W.Frag) (Ca : Str → Addr) (t : T) : TG := fun x σ H R => ∃ Z G μ ρ hv d ρ1, Rl K Ca Z G μ ρ hv σ H ∧ Rep K G H d x ∧ bindT t d ρ = some ρ1 ∧ ∀ σ1, Rl K Ca Z G μ ρ1 [] σ1 H → (∀ j, j ∉ t.sl → σ1[j]? = σ[j]?) → R σ1 H
def gTs (K : PySem.W.Frag) (Ca : Str → Addr) (ts : List T) : TGs := fun vs σ H R => ∃ Z G μ ρ hv ds ρ1, Rl K Ca Z G μ ρ hv σ H ∧ Reps K G H ds vs ∧ bindTs ts ds ρ = some ρ1 ∧ ∀ σ1, Rl K Ca Z G μ ρ1 [] σ1 H → (∀ j, j ∉ slTs ts → σ1[j]? = σ[j]?) → R σ1 H
section
variable {X : Cx} {Ca : Str → Addr} {W : WX} {C : Calls} {g : List D} {pos : Pos}
theorem pg_nm {i : Nat} {x : Str} (hN : X.N.Nodup) (hi : X.N[i]? = some x) (hx : Loc X.env.scope x) (hf : X.fn x = true ∨ X.env.scope.names.lookup x = some .local) : PG X (.Name x pos) (gT X.K Ca (.nm i)) :=
  (pg_name hN hi hx hf).weak fun v σ H R ⟨Z, G, μ, ρ, hv, d, ρ1, rl, r, e, f⟩ => by
    simp only [bindT] at e
    split at e
    · rename_i h
      cases e
      refine f _ (rl.setVal r h) fun j hj => ?_
      have : j ≠ i := fun z => hj (by rw [z]; simp [T.sl])
      rw [List.getElem?_set_ne (Ne.symm this)]
    · cases e
theorem pgs_nill : PGs X [] (gTs X.K Ca []) := pgs_nil.weak fun v σ H R ⟨Z, G, μ, ρ, hv, ds, ρ1, rl, r, e, f⟩ => by
  cases ds with
  | nil =>
    simp only [bindTs] at e
    cases e
    simp only [Reps] at r
    exact ⟨r, f σ (rl.drop fun p hp => by cases hp) fun _ _ => rfl⟩
  | cons d ds => simp [bindTs] at e
theorem pgs_conss {e : Expr} {es : List Expr} {t : T} {ts : List T} (h1 : PG X e (gT X.K Ca t)) (h2 : PGs X es (gTs X.K Ca ts)) (hs : (assignEach (e :: es) X.env).map (·.2) = assign e X.env :: (assignEach es X.env).map (·.2)) : PGs X (e :: es) (gTs X.K Ca (t :: ts)) :=
  (pgs_cons h1 h2 hs).weak fun v σ H R ⟨Z, G, μ, ρ, hv, ds, ρ1, rl, r, e, f⟩ => by
    cases ds with
    | nil => simp [bindTs] at e
    | cons d ds =>
      simp only [bindTs, Option.bind_eq_some_iff] at e
      obtain ⟨ρ2, e1, e2⟩ := e
      simp only [Reps] at r
      obtain ⟨x, xs, rfl, r1, r2⟩ := r
      refine ⟨x, xs, rfl, Z, G, μ, ρ, hv, d, ρ2, rl, r1, e1, fun σ2 rl2 a2 => ?_⟩
      refine ⟨Z, G, μ, ρ2, _, ds, ρ1, rl2, r2, e2, fun σ1 rl1 a1 => f σ1 rl1 fun j hj => ?_⟩
      have h1 : j ∉ t.sl := fun z => hj (by simp [slTs, z])
      have h2 : j ∉ slTs ts := fun z => hj (by simp [slTs, z])
      rw [a1 j h2, a2 j h1]
theorem bindTs_length : ∀ (ts : List T) (ds : List D) (ρ ρ1 : Env), bindTs ts ds ρ = some ρ1 → ts.length = ds.length
  | [], [], _, _, _ => rfl
  | [], _ :: _, _, _, h => by simp [bindTs] at h
  | _ :: _, [], _, _, h => by simp [bindTs] at h
  | t :: ts, d :: ds, ρ, ρ1, h => by
    simp only [bindTs, Option.bind_eq_some_iff] at h
    obtain ⟨ρ2, _, h⟩ := h
    simp [bindTs_length ts ds ρ2 ρ1 h]
mutual
theorem bindT_len : ∀ {t : T} {d : D} {ρ ρ1 : Env}, bindT t d ρ = some ρ1 → ρ1.length = ρ.length
  | .nm i, d, ρ, ρ1, h => by
    simp only [bindT] at h
    split at h
    · cases h; rw [List.length_set]
    · cases h
  | .tp ts, d, ρ, ρ1, h => by
    cases d with
    | tup ds => simp only [bindT] at h; exact bindTs_len h
    | _ => simp [bindT] at h
theorem bindTs_len : ∀ {ts : List T} {ds : List D} {ρ ρ1 : Env}, bindTs ts ds ρ = some ρ1 → ρ1.length = ρ.length
  | [], [], _, _, h => by simp only [bindTs] at h; cases h; rfl
  | [], _ :: _, _, _, h => by simp [bindTs] at h
  | _ :: _, [], _, _, h => by simp [bindTs] at h
  | t :: ts, d :: ds, ρ, ρ1, h => by
    simp only [bindTs, Option.bind_eq_some_iff] at h
    obtain ⟨ρ2, h1, h⟩ := h
    rw [bindTs_len h, bindT_len h1]
end
theorem pg_tp {es : List Expr} {k : Nat} {ts : List T} (hc : X.calm = true) (h : PGs X es (gTs X.K Ca ts)) (hn : (assignEach es X.env).length = ts.length) (hst : (assignEach es X.env).findIdx? (·.1) = none) : PG X (.Tuple es k pos) (gT X.K Ca (.tp ts)) :=
  (pg_tup hc h hn hst).weak fun v σ H R ⟨Z, G, μ, ρ, hv, d, ρ1, rl, r, e, f⟩ => by
    cases d with
    | tup ds =>
      simp only [bindT] at e
      obtain ⟨p, vs, rfl, h1, r1⟩ := tpR_of r
      exact ⟨p, vs, rfl, h1, by rw [← r1.length]; exact (bindTs_length _ _ _ _ e).symm, Z, G, μ, ρ, hv, ds, ρ1, rl, r1, e, fun σ1 q1 q2 => f σ1 q1 fun j hj => q2 j (by simpa [T.sl] using hj)⟩
    | _ => simp [bindT] at e

/-! ### comprehensions -/
structure Prv (G : Gh) (H : Hp) (p : Addr) (acc : List V) : Prop where
  at_ : H p = some (.lst acc)
  nf : ¬ G.Fz p
  np : ∀ n : Nat, G.φ[n]? ≠ some p
theorem Prv.step {G G' : Gh} {μ μ' : Sto} {H H' : Hp} {p : Addr} {acc : List V} (s : Prv G H p acc) (e : Ext G μ H G' μ' H') : Prv G' H' p acc := by
  have n : ¬ Lv G μ p := fun ⟨n, _, q, _⟩ => s.np n q
  refine ⟨e.keep p _ s.at_ n, fun f => ?_, fun m q => ?_⟩
  · rcases e.fzn p f with f | f | f
    · exact s.nf f
    · rw [s.at_] at f; cases f
    · exact n f
  · rcases e.new m p q with q | q
    · exact s.np m q
    · rw [s.at_] at q; cases q
theorem Prv.app {K : PySem.W.Frag} {Gb G : Gh} {μb μ : Sto} {Hb H : Hp} {p : Addr} {acc acc' : List V} (s : Prv G H p acc) (e : Ext Gb μb Hb G μ H) (ok : Okk K Ca G μ H) (hb : Hb p = none) :
    Ext Gb μb Hb G μ (upd H p (.lst acc')) ∧ Okk K Ca G μ (upd H p (.lst acc')) ∧ Prv G (upd H p (.lst acc')) p acc' ∧ Stay K G H G (upd H p (.lst acc')) := by
  have st : Stay K G H G (upd H p (.lst acc')) := ⟨fun _ _ h => h, fun _ h => h, fun b v q t => by
      have : b ≠ p := fun z => by
        rw [z, s.at_] at q; cases q
        obtain ⟨xs, t⟩ := t
        rcases t with t | ⟨_, t⟩ <;> cases t
      rw [upd_ne this]; exact q, fun b v q f => by
      have : b ≠ p := fun z => s.nf (z ▸ f)
      rw [upd_ne this]; exact q⟩
  have none_ : ∀ b, upd H p (.lst acc') b = none → H b = none := fun b q => by
    by_cases z : b = p
    · rw [z, upd_same] at q; cases q
    · rw [upd_ne z] at q; exact q
  refine ⟨⟨e.pre, e.new, e.fz, e.fzn, fun b v q nl => ?_, fun b q => e.old b (none_ b q), e.lv⟩, ⟨ok.len, ok.nd, fun n b q z => ok.ex n b q (none_ b z), ok.nfz, fun b f z => ok.fex b f (none_ b z), fun n c b q1 q2 => ?_⟩, ⟨upd_same, s.nf, s.np⟩, st⟩
  · rw [upd_ne (fun z => by rw [z, hb] at q; cases q)]; exact e.keep b v q nl
  · refine (ok.cell n c b q1 q2).step st fun v q => ?_
    rw [upd_ne (fun z => s.np n (by rw [← z]; exact q2))]; exact q
theorem Prv.new {K : PySem.W.Frag} {G : Gh} {μ : Sto} {H : Hp} {p : Addr} {acc : List V} (ok : Okk K Ca G μ H) (h : H p = none) : Prv G (upd H p (.lst acc)) p acc :=
  ⟨upd_same, fun f => ok.fex p f h, fun n q => ok.ex n p q h⟩
theorem wipe_in {σ : St} {i : Nat} : ∀ {vs : List Nat}, i ∈ vs → i < σ.length → (L2.wipe σ vs)[i]? = some none
  | v :: vs, h, hi => by
    unfold L2.wipe
    by_cases e : v = i
    · rw [e, List.getElem?_set_self (by rw [L2.wipe_length]; exact hi)]
    · rw [List.getElem?_set_ne e]
      exact wipe_in ((List.mem_cons.mp h).resolve_left (Ne.symm e)) hi
theorem wipe_agree {σ σ1 : St} {vs sl : List Nat} (hl : σ1.length = σ.length) (sub : ∀ i ∈ sl, i ∈ vs) (h : ∀ j, j ∉ sl → σ1[j]? = (L2.wipe σ vs)[j]?) : L2.wipe σ1 vs = L2.wipe σ vs := by
  apply List.ext_getElem?
  intro j
  by_cases hj : j ∈ vs
  · by_cases hl2 : j < σ.length
    · rw [wipe_in hj hl2, wipe_in hj (by omega)]
    · rw [List.getElem?_eq_none (by rw [L2.wipe_length]; omega), List.getElem?_eq_none (by rw [L2.wipe_length]; omega)]
  · rw [L2.wipe_out hj, h j (fun z => hj (sub j z))]
abbrev W0 : WX := fun _ _ _ _ => False
def tC' (K : PySem.W.Frag) (Ca : Str → Addr) (W : WX) (C : Calls) (g : List D) (c : Option E) : TT := fun σ H Q => ∃ Z G μ ρ hv, Rl K Ca Z G μ ρ hv σ H ∧ At K Ca W RB σ G μ H (evalC C g c ρ) Q
theorem pts_nonee : PTs X [] (tC' X.K Ca W C g none) := pts_nil.weak fun σ H Q ⟨Z, G, μ, ρ, hv, rl, h⟩ => by
  simp only [evalC] at h
  exact h G true H (Ext.refl _ _ _) rl.ok rfl
theorem pts_somee {e : Expr} {A : E} (h : PT X e (tT X.K Ca W C g A)) : PTs X [e] (tC' X.K Ca W C g (some A)) := (pts_one h).weak fun σ H Q ⟨Z, G, μ, ρ, hv, rl, h⟩ => ⟨Z, G, μ, ρ, hv, rl, by
  simp only [evalC] at h; exact h⟩
/-- one item -/
def compF (C : Calls) (g : List D) (own : List Nat) (t : T) (c : Option E) (e : E) (ρ : Env) (d : D) : M (Option D) := match bindT t d (wipeS ρ own) with
  | none => stuck
  | some ρ1 => M.bind (evalC C g c ρ1) fun k => if k then M.bind (evalE C g e ρ1) fun y => M.bind (needV y) fun d => M.pure (some d) else M.pure none
theorem comp_eq {own : List Nat} {t : T} {it : E} {c : Option E} {e : E} {ρ : Env} : evalE C g (.comp own t it c e) ρ = M.bind (evalW C g it ρ) fun ds => M.bind (noex (mapItems (compF C g own t c e ρ) ds)) fun r => if r.length ≤ sizeLine ∧ ds.length ≤ sizeLine then M.pure (.fr r) else stuck := by
  simp only [evalE]
  unfold evalW
  rw [M.bind_assoc]
  congr 1
  funext x
  cases x <;> rfl
theorem bind_ok {α β : Type} {m : M α} {k : α → M β} {μ μ2 : Sto} {b : β} (h : M.bind m k μ = some (.ok b μ2)) : ∃ a μ1, m μ = some (.ok a μ1) ∧ k a μ1 = some (.ok b μ2) := by
  unfold M.bind at h
  cases q : m μ with
  | none => rw [q] at h; cases h
  | some r =>
    rw [q] at h
    cases r with
    | exc x μ1 => cases h
    | ok a μ1 => exact ⟨a, μ1, rfl, h⟩
theorem at_ok {K : PySem.W.Frag} {σ : St} {G : Gh} {μ μ2 : Sto} {H : Hp} {α β : Type} {R : Gh → Hp → Hp → α → β → Prop} {m : M α} {a : α} {Q : β → Hp → Prop} (e : m μ = some (.ok a μ2)) (h : ∀ G1 v H1, Ext G μ H G1 μ2 H1 → Okk K Ca G1 μ2 H1 → R G1 H H1 a v → Q v H1) : At K Ca W R σ G μ H m Q := by
  unfold At
  rw [e]
  exact h
theorem At.noexb {K : PySem.W.Frag} {σ : St} {G : Gh} {μ : Sto} {H : Hp} {α β γ : Type} {R : Gh → Hp → Hp → γ → β → Prop} {m : M α} {k : α → M γ} {Q : β → Hp → Prop} (h : At K Ca W R σ G μ H (M.bind (noex m) k) Q) : ∃ a μ1, m μ = some (.ok a μ1) ∧ At K Ca W R σ G μ H (fun _ => k a μ1) Q := by
  unfold At M.bind noex at h
  cases q : m μ with
  | none => rw [q] at h; exact h.elim
  | some r =>
    rw [q] at h
    cases r with
    | exc x μ1 => exact h.elim
    | ok a μ1 => exact ⟨a, μ1, rfl, h⟩
theorem mapItems_cons {f : D → M (Option D)} {d : D} {ds : List D} {μ μ2 : Sto} {r : List D} (h : mapItems f (d :: ds) μ = some (.ok r μ2)) : ∃ o r' μ1, f d μ = some (.ok o μ1) ∧ mapItems f ds μ1 = some (.ok r' μ2) ∧ r = (match o with | none => r' | some x => x :: r') := by
  simp only [mapItems] at h
  obtain ⟨o, μ1, h1, h⟩ := bind_ok h
  obtain ⟨r', μ3, h2, h⟩ := bind_ok h
  cases h
  exact ⟨o, r', μ1, h1, h2, rfl⟩
theorem comp_lc {own : List (Str × Nat)} {t : T} {IT e : E} {co : Option E} (sub : ∀ i ∈ t.sl, i ∈ own.map (·.2)) {σ : St} {H : Hp} {Q : VK} (h : tE X.K Ca W C g (.comp (own.map (·.2)) t IT co e) σ H Q) :
    tLc (tI X.K Ca W C g IT) (gT X.K Ca t) (tC' X.K Ca W0 C g co) (tE X.K Ca W0 C g e) (own.map (·.2)) σ H Q := by
    obtain ⟨Z, G, μ, ρ, hv, rl, h⟩ := h
    rw [comp_eq] at h
    refine ⟨Z, G, μ, ρ, hv, rl, (At.bind (R := RW X.K Ca) RvR.mono h).imp fun G1' μ1' H1 ds' Jt ex1' ok1' rw1' f => ?_⟩
    obtain ⟨ds, G2, μ2, e2, ok2, rw2, h2⟩ := f Jt rw1'
    intro p hp
    obtain ⟨r, μr, em, h3⟩ := (h2 G2 e2 ok2).noexb
    clear h2 f h
    have wk : Wk X.K Ca G2 H1 Jt ds := rw2
    obtain ⟨⟨hr, hd⟩, fin⟩ : (r.length ≤ sizeLine ∧ ds.length ≤ sizeLine) ∧ ∀ G' v H', Ext G2 μ2 H1 G' μr H' → Okk X.K Ca G' μr H' → RvR X.K ρ σ G' H1 H' (.fr r) v → Q v H' := by
      by_cases hz : r.length ≤ sizeLine ∧ ds.length ≤ sizeLine
      · rw [if_pos hz] at h3; exact ⟨hz, h3⟩
      · rw [if_neg hz] at h3; exact h3.elim
    clear h3
    let Inv' : Nat → Hp → Prop := fun i Hc => i ≤ ds.length ∧ ∃ Gc μc acc racc rest, Ext G2 μ2 H1 Gc μc Hc ∧ Okk X.K Ca Gc μc Hc ∧ Prv Gc Hc p acc ∧ Reps X.K Gc Hc racc acc ∧ mapItems (compF C g (own.map (·.2)) t co e ρ) (ds.drop i) μc = some (.ok rest μr) ∧ r = racc ++ rest ∧ racc.length ≤ i
    have rl2 := rl.step e2 ok2
    refine ⟨fun i m Hc => m = ds.length - i ∧ Inv' i Hc, ⟨ds.length, by simp, Nat.zero_le _, G2, μ2, [], [], r, Ext.fresh ok2 hp, ok2.fresh hp, Prv.new ok2 hp, Reps.nil, em, rfl, Nat.le_refl _⟩, ?_⟩
    rintro i m Hc ⟨rfl, hi, Gc, μc, acc, racc, rest, exc, okc, prv, reps, emi, er, hle⟩
    obtain ⟨wstop, wgo⟩ := wk i Gc μc Hc (exc.stay ok2) okc
    by_cases hlt : i < ds.length
    · refine .inr ?_
      have hdi : ds[i]? = some ds[i] := List.getElem?_eq_getElem hlt
      obtain ⟨go, hy⟩ := wgo _ hdi
      refine ⟨go, Inv' (i + 1), fun H' n => ⟨ds.length - (i + 1), by omega, rfl, n⟩, fun x H' y => ?_⟩
      obtain ⟨G', ex', ok', rx⟩ := hy x H' y
      rw [List.drop_eq_getElem_cons hlt] at emi
      obtain ⟨o, rest', μo, ef, emr, ers⟩ := mapItems_cons emi
      unfold compF at ef
      cases eb : bindT t ds[i] (wipeS ρ (own.map (·.2))) with
      | none => rw [eb] at ef; cases ef
      | some ρ1 =>
        rw [eb] at ef
        obtain ⟨k, μk, ek, ef⟩ := bind_ok ef
        have rlw := ((rl2.step exc okc).step ex' ok').wipe (own.map (·.2))
        refine ⟨Z, G', μc, _, [], ds[i], ρ1, rlw, rx, eb, fun σ1 rl1 ag => ?_⟩
        refine ⟨wipe_agree (by rw [← rl1.sl.len]; have := rlw.sl.len; rw [L2.wipe_length] at this; rw [← this]; exact bindT_len eb) sub ag, ?_⟩
        refine ⟨Z, G', μc, ρ1, [], rl1, at_ok ek fun Gk v Hk exk okk rk => ?_⟩
        have rk : k = v := rk
        subst rk
        cases k with
        | false =>
          rw [if_neg Bool.false_ne_true] at ef ⊢
          cases ef
          have exx := ex'.trans exk
          exact ⟨hlt, Gk, _, acc, racc, rest', exc.trans exx, okk, prv.step exx, (exx.stay okc).reps _ _ reps, emr, by rw [er, ers], by omega⟩
        | true =>
          rw [if_pos rfl] at ef ⊢
          obtain ⟨y0, μy, ey, ef⟩ := bind_ok ef
          obtain ⟨d', μz, ed, ef⟩ := bind_ok ef
          have edv : y0.val = some d' ∧ μy = μz := by
            unfold needV at ed
            cases q : y0.val with
            | none => rw [q] at ed; cases ed
            | some w => rw [q] at ed; cases ed; exact ⟨rfl, rfl⟩
          obtain ⟨edv, rfl⟩ := edv
          cases ef
          refine ⟨Z, Gk, μk, ρ1, [], rl1.step exk okk, at_ok ey fun G4 z H4 ex4 ok4 r4 => ?_⟩
          obtain ⟨G5, ex5, ok5, rl5, v5, _⟩ := (rl1.step exk okk).take ex4 ok4 r4
          have exx := (ex'.trans exk).trans ex5
          have prv5 := prv.step exx
          have reps5 := (exx.stay okc).reps _ _ reps
          obtain ⟨q1, q2, q3, q4⟩ := prv5.app (acc' := acc ++ [z]) (exc.trans exx) ok5 hp
          refine ⟨acc, prv5.at_, by rw [← reps.length]; omega, hlt, G5, _, acc ++ [z], racc ++ [d'], rest', q1, q2, q3, ?_, emr, by rw [er, ers]; simp, by simp; omega⟩
          exact q4.reps _ _ (reps5.append (.one (v5 d' edv)))
    · have e : i = ds.length := by omega
      subst e
      rw [List.drop_length] at emi
      cases emi
      refine .inl ⟨wstop (Nat.le_refl _), fin Gc _ Hc exc okc ⟨p, acc, rfl, hp, prv.at_, ?_, prv.nf, prv.np⟩⟩
      rw [er, List.append_nil]; exact reps
theorem pe_compp {elt tg iter : Expr} {ifs : List Expr} {scope : Scope} {own : List (Str × Nat)} {t : T} {IT e : E} {co : Option E} (hc : X.calm = true) (hN : X.N.Nodup) (ok : BlkOk X.N X.env.scope scope own) (hi : PI X tg iter (tI X.K Ca W C g IT))
    (hg : ∀ (s : Shared) (H : Hp) (D : Addr) (cl : List (Str × Addr)) (fp : List Addr), PG (X.blk s H scope (compEnvC scope cl D X.env) fp) tg (gT X.K Ca t))
    (ht : ∀ (s : Shared) (H : Hp) (D : Addr) (cl : List (Str × Addr)) (fp : List Addr), PTs (X.blk s H scope (compEnvC scope cl D X.env) fp) ifs (tC' X.K Ca W0 C g co))
    (he : ∀ (s : Shared) (H : Hp) (D : Addr) (cl : List (Str × Addr)) (fp : List Addr), PE (X.blk s H scope (compEnvC scope cl D X.env) fp) elt (tE X.K Ca W0 C g e))
    (hs : ∀ x, foldedSetIterable iter X.env x = pure x) (sub : ∀ i ∈ t.sl, i ∈ own.map (·.2)) : PE X (.ListComp elt [⟨tg, iter, ifs, 0⟩] scope pos) (tE X.K Ca W C g (.comp (own.map (·.2)) t IT co e)) :=
  (pe_lc hc hN hi ok hg ht he hs).weak fun σ H Q h => comp_lc sub h
end
end J
/-! statements. -/
namespace L2
open PySem PySem.Spec PyProof.Rows
theorem PS.weak {X : Cx} {e : Stmt} {t t' : TS} (h : PS X e t) (w : ∀ Dn σ H, t' Dn σ H → t Dn σ H) : PS X e t' := ⟨fun pins s σ H D I q => h.run pins s σ H D I (w D σ H q)⟩
theorem PSs.weak {X : Cx} {e : List Stmt} {t t' : TS} (h : PSs X e t) (w : ∀ Dn σ H, t' Dn σ H → t Dn σ H) : PSs X e t' := ⟨fun pins s σ H D I q => h.run pins s σ H D I (w D σ H q)⟩
end L2
namespace J
open PySem L2 PySem.Spec PyProof.Rows
def AtR (K : PySem.W.Frag) (Ca : Str → Addr) (W : WX) (Z : Ent) (r : Option (Res Flo)) (Dn : Ends) : Prop := match r with
  | some (.ok (.nx ρ1) μ1) => ∀ G1 σ1 H1, Rl K Ca Z G1 μ1 ρ1 [] σ1 H1 → Dn.nx σ1 H1
  | some (.ok (.ct ρ1) μ1) => ∀ G1 σ1 H1, Rl K Ca Z G1 μ1 ρ1 [] σ1 H1 → Dn.ct σ1 H1
  | some (.ok (.rt r) μ1) => ∀ G1 v H1, Ext Z.G Z.μ Z.H G1 μ1 H1 → Okk K Ca G1 μ1 H1 → RvR K [] [] G1 Z.H H1 r v → Dn.rt v H1
  | some (.ok (.ex x ρ1) μ1) => ∀ G1 σ1 H1 cls d, Rl K Ca Z G1 μ1 ρ1 [] σ1 H1 → ExR K Ca x G1 H1 cls d → W cls d σ1 H1
  | _ => False
def tS (K : PySem.W.Frag) (Ca : Str → Addr) (W : WX) (C : Calls) (g : List D) (s : S) : TS := fun Dn σ H => ∃ Z G μ ρ hv, Rl K Ca Z G μ ρ hv σ H ∧ AtR K Ca W Z (evalS C g s ρ μ) Dn
def tSs (K : PySem.W.Frag) (Ca : Str → Addr) (W : WX) (C : Calls) (g : List D) (s : List S) : TS := fun Dn σ H => ∃ Z G μ ρ hv, Rl K Ca Z G μ ρ hv σ H ∧ AtR K Ca W Z (evalSs C g s ρ μ) Dn
section
variable {K : PySem.W.Frag} {Ca : Str → Addr} {W : WX} {C : Calls} {g : List D} {Z : Ent} {G G1 : Gh} {μ μ1 : Sto} {ρ : Env} {hv : List (D × V)} {σ : St} {H H1 : Hp} {Dn : Ends}
theorem AtR.oMb {α : Type} {o : Option α} {k : α → M Flo} (h : AtR K Ca W Z (M.bind (J.oM o) k μ) Dn) : ∃ a, o = some a ∧ AtR K Ca W Z (k a μ) Dn := by
  cases o with
  | none => exact False.elim h
  | some a => exact ⟨a, rfl, h⟩
theorem AtR.val {rv : RV} {k : D → M Flo} {Dn : Ends} (h : AtR K Ca W Z (M.bind (needV rv) k μ) Dn) : ∃ d, rv.val = some d ∧ AtR K Ca W Z (k d μ) Dn := AtR.oMb h
theorem stE_at {α β : Type} {R : Gh → Hp → Hp → α → β → Prop} {m : M α} {k : α → M Flo} (rl : Rl K Ca Z G μ ρ hv σ H) (h : AtR K Ca W Z (stE ρ m k μ) Dn) :
    At K Ca W R σ G μ H m fun x H1 => ∃ a G1 μ1, Ext G μ H G1 μ1 H1 ∧ Okk K Ca G1 μ1 H1 ∧ R G1 H H1 a x ∧ AtR K Ca W Z (k a μ1) Dn := by
  unfold stE at h
  unfold At
  cases q : m μ with
  | none => rw [q] at h; exact h
  | some r =>
    rw [q] at h
    cases r with
    | exc x μ1 => exact fun G1 H1 cls d e ok ex => h G1 σ H1 cls d ((rl.step e ok).drop fun p hp => by cases hp) ex
    | ok a μ1 => exact fun G1 v H1 e ok r => ⟨a, G1, μ1, e, ok, r, h⟩
theorem sE_then {e : E} {k : RV → M Flo} {T : VK} (rl : Rl K Ca Z G μ ρ hv σ H) (h : AtR K Ca W Z (stE ρ (evalE C g e ρ) k μ) Dn)
    (next : ∀ rv x G1 μ1 H1, Ext G μ H G1 μ1 H1 → Rl K Ca Z G1 μ1 ρ ((rv.d, x) :: hv) σ H1 → (∀ d, rv.val = some d → Rep K G1 H1 d x) → (∀ i ds, rv = .bo i ds → ρ[i]? = some (.own ds) ∧ σ[i]? = some (some x)) → AtR K Ca W Z (k rv μ1) Dn → T x H1) : tE K Ca W C g e σ H T := by
  refine ⟨Z, G, μ, ρ, hv, rl, (stE_at (R := RvR K ρ σ) rl h).imp fun G1 μ1 H1 rv x e1 ok1 r1 f => ?_⟩
  obtain ⟨a, G2, μ2, e2, ok2, r2, q⟩ := f x r1
  obtain ⟨G3, e3, ok3, rl3, v3, b3⟩ := rl.take e2 ok2 r2
  exact next a x G3 μ2 H1 e3 rl3 v3 b3 q
theorem sE_raw {e : E} {k : RV → M Flo} {T : VK} (rl : Rl K Ca Z G μ ρ hv σ H) (h : AtR K Ca W Z (stE ρ (evalE C g e ρ) k μ) Dn)
    (next : ∀ rv x G1 μ1 H1, Ext G μ H G1 μ1 H1 → Rl K Ca Z G1 μ1 ρ hv σ H1 → RvR K ρ σ G1 H H1 rv x → AtR K Ca W Z (k rv μ1) Dn → T x H1) : tE K Ca W C g e σ H T := by
  refine ⟨Z, G, μ, ρ, hv, rl, (stE_at (R := RvR K ρ σ) rl h).imp fun G1 μ1 H1 rv x e1 ok1 r1 f => ?_⟩
  obtain ⟨a, G2, μ2, e2, ok2, r2, q⟩ := f x r1
  exact next a x G2 μ2 H1 e2 (rl.step e2 ok2) r2 q
theorem sAs_then {es : List E} {k : List D → M Flo} {T : List V → Hp → Prop} (rl : Rl K Ca Z G μ ρ hv σ H) (h : AtR K Ca W Z (stE ρ (evalEs C g es ρ) k μ) Dn)
    (next : ∀ ds vs G1 μ1 H1, Ext G μ H G1 μ1 H1 → Rl K Ca Z G1 μ1 ρ hv σ H1 → Reps K G1 H1 ds vs → AtR K Ca W Z (k ds μ1) Dn → T vs H1) : tAs K Ca W C g es σ H T := by
  refine ⟨Z, G, μ, ρ, hv, rl, (stE_at (R := RRs K) rl h).imp fun G1 μ1 H1 ds vs e1 ok1 r1 f => ?_⟩
  obtain ⟨ds', G2, μ2, e2, ok2, r2, q⟩ := f vs r1
  exact next ds' vs G2 μ2 H1 e2 (rl.step e2 ok2) r2 q
/-! ### slots' own lists -/
theorem SlR.prv {H0 : Hp} (s : SlR K G H H0 ρ σ) {i : Nat} {ds : List D} (h : ρ[i]? = some (.own ds)) : ∃ a vs, σ[i]? = some (some (.ref a)) ∧ Prv G H a vs ∧ Reps K G H ds vs ∧ H0 a = none := by
  obtain ⟨a, vs, h1, h2, h3, h4, h5, h6⟩ := s.own i ds h
  exact ⟨a, vs, h1, ⟨h2, h4, h5⟩, h3, h6⟩
theorem Rl.updOwn (rl : Rl K Ca Z G μ ρ hv σ H) {i : Nat} {ds ds' : List D} {a : Addr} {vs vs' : List V} (h : ρ[i]? = some (.own ds)) (e : σ[i]? = some (some (.ref a))) (hp : Prv G H a vs) (h0 : Z.H a = none)
    (hr : Stay K G H G (upd H a (.lst vs')) → Reps K G (upd H a (.lst vs')) ds' vs') : Rl K Ca Z G μ (ρ.set i (.own ds')) [] σ (upd H a (.lst vs')) := by
  obtain ⟨q1, q2, q3, q4⟩ := hp.app (acc' := vs') rl.ext rl.ok h0
  have hi : i < ρ.length := (List.getElem?_eq_some_iff.mp h).1
  refine ⟨q1, q2, ⟨by rw [List.length_set]; exact rl.sl.len, fun j d hj => ?_, fun j es hj => ?_, fun j k b es fs h1 h2 h3 h4 => ?_⟩, fun p hp => (by cases hp), rl.anc.trans q4⟩
  · by_cases z : j = i
    · rw [z, List.getElem?_set_self hi] at hj; cases hj
    · rw [List.getElem?_set_ne (Ne.symm z)] at hj
      obtain ⟨v, q5, q6⟩ := rl.sl.val j d hj
      exact ⟨v, q5, q4.rep _ _ q6⟩
  · by_cases z : j = i
    · rw [z, List.getElem?_set_self hi] at hj; cases hj
      rw [z]
      exact ⟨a, vs', e, q3.at_, hr q4, q3.nf, q3.np, h0⟩
    · rw [List.getElem?_set_ne (Ne.symm z)] at hj
      obtain ⟨b, ws, q5, q6, q7, q8, q9, q10⟩ := rl.sl.own j es hj
      have hb : b ≠ a := fun y => z (rl.sl.dis j i a es ds hj h (by rw [← y]; exact q5) e)
      exact ⟨b, ws, q5, by rw [upd_ne hb]; exact q6, q4.reps _ _ q7, q8, q9, q10⟩
  · have un : ∀ (j : Nat) (es : List D), (ρ.set i (.own ds'))[j]? = some (.own es) → ∃ es', ρ[j]? = some (.own es') := fun j es hj => by
      by_cases z : j = i
      · exact ⟨ds, by rw [z]; exact h⟩
      · rw [List.getElem?_set_ne (Ne.symm z)] at hj; exact ⟨es, hj⟩
    obtain ⟨es', h1⟩ := un j es h1
    obtain ⟨fs', h2⟩ := un k fs h2
    exact rl.sl.dis j k b es' fs' h1 h2 h3 h4
theorem Rl.setOwn (rl : Rl K Ca Z G μ ρ hv σ H) {i : Nat} {ds : List D} {a : Addr} {vs : List V} (hi : i < ρ.length) (hp : Prv G H a vs) (hr : Reps K G H ds vs) (h0 : Z.H a = none)
    (hn : ∀ (j : Nat) (es : List D), ρ[j]? = some (.own es) → σ[j]? ≠ some (some (.ref a))) : Rl K Ca Z G μ (ρ.set i (.own ds)) [] (σ.set i (some (.ref a))) H := by
  have hs : i < σ.length := by rw [← rl.sl.len]; exact hi
  refine ⟨rl.ext, rl.ok, ⟨by rw [List.length_set, List.length_set]; exact rl.sl.len, fun j d hj => ?_, fun j es hj => ?_, fun j k b es fs h1 h2 h3 h4 => ?_⟩, fun p hp => (by cases hp), rl.anc⟩
  · by_cases z : j = i
    · rw [z, List.getElem?_set_self hi] at hj; cases hj
    · rw [List.getElem?_set_ne (Ne.symm z)] at hj ⊢; exact rl.sl.val j d hj
  · by_cases z : j = i
    · rw [z, List.getElem?_set_self hi] at hj; cases hj
      rw [z, List.getElem?_set_self hs]
      exact ⟨a, vs, rfl, hp.at_, hr, hp.nf, hp.np, h0⟩
    · rw [List.getElem?_set_ne (Ne.symm z)] at hj ⊢; exact rl.sl.own j es hj
  · by_cases z : j = i
    · by_cases y : k = i
      · rw [z, y]
      · rw [List.getElem?_set_ne (Ne.symm y)] at h2 h4
        rw [z, List.getElem?_set_self hs] at h3; cases h3
        exact absurd h4 (hn k fs h2)
    · rw [List.getElem?_set_ne (Ne.symm z)] at h1 h3
      by_cases y : k = i
      · rw [y, List.getElem?_set_self hs] at h4; cases h4
        exact absurd h3 (hn j es h1)
      · rw [List.getElem?_set_ne (Ne.symm y)] at h2 h4
        exact rl.sl.dis j k b es fs h1 h2 h3 h4
theorem slotO_some {ρ ρ1 : Env} {i : Nat} {s : Slot} (h : slotO ρ i s = some ρ1) : i < ρ.length ∧ ρ1 = ρ.set i s := by
  unfold slotO at h
  split at h
  · cases h; exact ⟨by assumption, rfl⟩
  · cases h
/-- shared from now on -/
theorem Rl.share (rl : Rl K Ca Z G μ ρ hv σ H) {i : Nat} {ds : List D} (h : ρ[i]? = some (.own ds)) : ∃ G', Rl K Ca Z G' μ (ρ.set i (.val (.lst ds))) [] σ H := by
  obtain ⟨a, vs, e, hp, hr, h0⟩ := rl.sl.prv h
  have hi : i < ρ.length := (List.getElem?_eq_some_iff.mp h).1
  have nl : ¬ Lv G μ a := fun ⟨n, _, q, _⟩ => hp.np n q
  have st : Stay K G H (G.frz a) H := ⟨fun _ _ h => h, fun _ f => .inl f, fun _ _ h _ => h, fun _ _ h _ => h⟩
  refine ⟨G.frz a, ⟨rl.ext.pre, rl.ext.new, fun b f => .inl (rl.ext.fz b f), fun b f => f.elim (fun f => rl.ext.fzn b f) fun f => .inr (.inl (by rw [f]; exact h0)), rl.ext.keep, rl.ext.old, rl.ext.lv⟩,
    ⟨rl.ok.len, rl.ok.nd, rl.ok.ex, fun b l f => f.elim (rl.ok.nfz b l) fun f => nl (by rw [← f]; exact l), fun b f => f.elim (rl.ok.fex b) fun f z => (by rw [f, hp.at_] at z; cases z), fun n c b q1 q2 => (rl.ok.cell n c b q1 q2).step st fun _ h => h⟩,
    ⟨by rw [List.length_set]; exact rl.sl.len, fun j d hj => ?_, fun j es hj => ?_, fun j k b es fs h1 h2 h3 h4 => ?_⟩, fun p hp => (by cases hp), rl.anc.trans st⟩
  · by_cases z : j = i
    · rw [z, List.getElem?_set_self hi] at hj; cases hj
      refine ⟨.ref a, by rw [z]; exact e, ?_⟩
      simp only [Rep]
      exact ⟨a, vs, rfl, ⟨.inr rfl, hp.at_⟩, st.reps _ _ hr⟩
    · rw [List.getElem?_set_ne (Ne.symm z)] at hj
      obtain ⟨v, q1, q2⟩ := rl.sl.val j d hj
      exact ⟨v, q1, st.rep _ _ q2⟩
  · by_cases z : j = i
    · rw [z, List.getElem?_set_self hi] at hj; cases hj
    · rw [List.getElem?_set_ne (Ne.symm z)] at hj
      obtain ⟨b, ws, q5, q6, q7, q8, q9, q10⟩ := rl.sl.own j es hj
      exact ⟨b, ws, q5, q6, st.reps _ _ q7, fun f => f.elim q8 fun f => z (rl.sl.dis j i a es ds hj h (by rw [← f]; exact q5) e), q9, q10⟩
  · have un : ∀ (j : Nat) (es : List D), (ρ.set i (.val (.lst ds)))[j]? = some (.own es) → ρ[j]? = some (.own es) := fun j es hj => by
      by_cases z : j = i
      · rw [z, List.getElem?_set_self hi] at hj; cases hj
      · rw [List.getElem?_set_ne (Ne.symm z)] at hj; exact hj
    exact rl.sl.dis j k b es fs (un j es h1) (un k fs h2) h3 h4
end
section
variable {X : Cx} {Ca : Str → Addr} {W : WX} {C : Calls} {g : List D} {a b c o i e tg : Expr} {A B A2 O I' E' : E} {pos : Pos} {st : Stmt} {sts : List Stmt} {s : S} {ss : List S}
/-! ### blocks -/
theorem pss_nill : PSs X [] (tSs X.K Ca W C g []) := pss_nil.weak fun Dn σ H ⟨Z, G, μ, ρ, hv, rl, h⟩ => by
  simp only [evalSs] at h
  exact h G σ H (rl.drop fun p hp => by cases hp)
theorem seq_core {Dn : Ends} {σ : St} {H : Hp} (h : tSs X.K Ca W C g (s :: ss) Dn σ H) : tSeq (tS X.K Ca W C g s) (tSs X.K Ca W C g ss) Dn σ H := by
  obtain ⟨Z, G, μ, ρ, hv, rl, h⟩ := h
  refine ⟨Z, G, μ, ρ, hv, rl, ?_⟩
  simp only [evalSs] at h
  unfold M.bind at h
  cases q : evalS C g s ρ μ with
  | none => rw [q] at h; exact h
  | some r =>
    rw [q] at h
    cases r with
    | exc x μ1 => exact h
    | ok f μ1 =>
      cases f with
      | nx ρ1 => exact fun G1 σ1 H1 rl1 => ⟨Z, G1, μ1, ρ1, [], rl1, h⟩
      | ct ρ1 => exact h
      | rt r => exact h
      | ex x ρ1 => exact h
theorem pss_conss (h1 : PS X st (tS X.K Ca W C g s)) (h2 : PSs X sts (tSs X.K Ca W C g ss)) : PSs X (st :: sts) (tSs X.K Ca W C g (s :: ss)) := (pss_cons h1 h2).weak fun Dn σ H h => seq_core h
theorem pss_share {i : Nat} (h2 : PSs X sts (tSs X.K Ca W C g ss)) : PSs X sts (tSs X.K Ca W C g (.share i :: ss)) := h2.weak fun Dn σ H h => by
  obtain ⟨Z, G, μ, ρ, hv, rl, h⟩ := seq_core h
  simp only [evalS] at h
  cases q : ρ[i]? with
  | none => rw [q] at h; exact False.elim h
  | some s =>
    rw [q] at h
    cases s with
    | own ds =>
      obtain ⟨G', rl'⟩ := rl.share q
      exact h G' σ H rl'
    | _ => exact False.elim h
/-! ### stores -/
theorem ps_asgg {t : T} (he : PE X e (tE X.K Ca W C g A)) (hg : PG X tg (gT X.K Ca t)) (hs : swapsWithSole [tg] e pos.line X.env = pure false) (hw : swappedStores [tg] e X.env = pure none) (h1 : (assignEach [tg] X.env).map (·.2) = [assign tg X.env]) :
    PS X (.Assign [tg] e pos) (tS X.K Ca W C g (.asg t A)) := (ps_asg he hg hs hw h1).weak fun Dn σ H ⟨Z, G, μ, ρ, hv, rl, h⟩ => by
  simp only [evalS] at h
  refine sE_then rl h fun rv x G1 μ1 H1 _ rl1 v1 _ h => ?_
  obtain ⟨d, ed, h⟩ := h.val
  obtain ⟨ρ1, eb, h⟩ := h.oMb
  exact ⟨Z, G1, μ1, ρ, _, d, ρ1, rl1, v1 d ed, eb, fun σ1 rl2 _ => h G1 σ1 H1 rl2⟩
/-- a name, by any rule that stores it -/
theorem name_core {i : Nat} {Dn : Ends} {σ : St} {H : Hp} (h : tS X.K Ca W C g (.asg (.nm i) A) Dn σ H) : tAsg (tE X.K Ca W C g A) (gName i) Dn σ H := by
  obtain ⟨Z, G, μ, ρ, hv, rl, h⟩ := h
  simp only [evalS] at h
  refine sE_then rl h fun rv x G1 μ1 H1 _ rl1 v1 _ h => ?_
  obtain ⟨d, ed, h⟩ := h.val
  obtain ⟨ρ1, eb, h⟩ := h.oMb
  simp only [bindT] at eb
  split at eb
  · rename_i hi
    cases eb
    exact h G1 _ H1 (rl1.setVal (v1 d ed) hi)
  · cases eb
theorem own_core {i : Nat} {Dn : Ends} {σ : St} {H : Hp} (h : tS X.K Ca W C g (.own i A) Dn σ H) : tAsg (tE X.K Ca W C g A) (gName i) Dn σ H := by
  obtain ⟨Z, G, μ, ρ, hv, rl, h⟩ := h
  simp only [evalS] at h
  refine sE_raw rl h fun rv x G1 μ1 H1 e1 rl1 r1 h => ?_
  cases rv with
  | v d => exact False.elim h
  | bo j ds => exact False.elim h
  | fr ds =>
    obtain ⟨ρ1, eb, h⟩ := h.oMb
    obtain ⟨hi, rfl⟩ := slotO_some eb
    obtain ⟨p, vs, rfl, q0, q1, q2, q3, q4⟩ := r1
    refine h G1 _ H1 (rl1.setOwn hi ⟨q1, q3, q4⟩ q2 (rl.ext.old p q0) fun j es hj ej => ?_)
    obtain ⟨a', _, e', e'', _⟩ := rl.sl.own j es hj
    rw [ej] at e'; cases e'
    rw [q0] at e''; cases e''
theorem ps_namee {i : Nat} {x : Str} {pos' : Pos} (hN : X.N.Nodup) (hi : X.N[i]? = some x) (hx : Loc X.env.scope x) (he : PE X e (tE X.K Ca W C g A)) (hs : swapsWith e (some (.Name x pos')) pos.line X.env = pure false) (hf : X.fn x = true ∨ X.env.scope.names.lookup x = some .local) :
    PS X (.Assign [.Name x pos'] e pos) (tS X.K Ca W C g (.asg (.nm i) A)) := (ps_set hN hi hx he hs hf).weak fun Dn σ H h => name_core h
theorem ps_ownn {i : Nat} {x : Str} {pos' : Pos} (hN : X.N.Nodup) (hi : X.N[i]? = some x) (hx : Loc X.env.scope x) (he : PE X e (tE X.K Ca W C g A)) (hs : swapsWith e (some (.Name x pos')) pos.line X.env = pure false) (hf : X.fn x = true ∨ X.env.scope.names.lookup x = some .local) :
    PS X (.Assign [.Name x pos'] e pos) (tS X.K Ca W C g (.own i A)) := (ps_set hN hi hx he hs hf).weak fun Dn σ H h => own_core h
/-- name = [..] -/
theorem ps_setLcc {j : Nat} {y : Str} {py spos : Pos} {elt iter : Expr} {ifs : List Expr} {scope : Scope} {own : List (Str × Nat)} {t : T} {IT e : E} {co : Option E} (hc : X.calm = true) (hN : X.N.Nodup) (hy : X.N[j]? = some y) (hyl : X.env.scope.names.lookup y = some .local)
    (hsw : swapsWith (.ListComp elt [⟨tg, iter, ifs, 0⟩] scope pos) (some (.Name y py)) spos.line X.env = pure true) (ok : BlkOk X.N X.env.scope scope own) (hi : PI X tg iter (tI X.K Ca W C g IT))
    (hg : ∀ (s : Shared) (H : Hp) (D : Addr) (cl : List (Str × Addr)) (fp : List Addr), PG (X.blk s H scope (compEnvC scope cl D X.env) fp) tg (gT X.K Ca t))
    (ht : ∀ (s : Shared) (H : Hp) (D : Addr) (cl : List (Str × Addr)) (fp : List Addr), PTs (X.blk s H scope (compEnvC scope cl D X.env) fp) ifs (tC' X.K Ca W0 C g co))
    (he : ∀ (s : Shared) (H : Hp) (D : Addr) (cl : List (Str × Addr)) (fp : List Addr), PE (X.blk s H scope (compEnvC scope cl D X.env) fp) elt (tE X.K Ca W0 C g e))
    (hs : ∀ x, foldedSetIterable iter X.env x = pure x) (sub : ∀ i ∈ t.sl, i ∈ own.map (·.2)) :
    PS X (.Assign [.Name y py] (.ListComp elt [⟨tg, iter, ifs, 0⟩] scope pos) spos) (tAsg (tE X.K Ca W C g (.comp (own.map (·.2)) t IT co e)) (gName j)) :=
  (ps_setLc hc hN hy hyl hsw hi ok hg ht he hs).weak fun Dn σ H h => comp_lc sub h
theorem ps_parr {i j : Nat} {x y : Str} {px py pt : Pos} {kt : Nat} {k2 : Nat} {pt2 : Pos} (hc : X.calm = true) (hN : X.N.Nodup) (hi : X.N[i]? = some x) (hj : X.N[j]? = some y) (hij : i ≠ j)
    (hx : X.env.scope.names.lookup x = some .local) (hy : X.env.scope.names.lookup y = some .local) (ha : PA X [a, b] (tAs X.K Ca W C g [A, B])) (hw : swappedStores [.Tuple [.Name x px, .Name y py] kt pt] (.Tuple [a, b] k2 pt2) X.env = pure (some [x, y]))
    (hs : swapsWithSole [.Tuple [.Name x px, .Name y py] kt pt] (.Tuple [a, b] k2 pt2) pos.line X.env = pure false) :
    PS X (.Assign [.Tuple [.Name x px, .Name y py] kt pt] (.Tuple [a, b] k2 pt2) pos) (tS X.K Ca W C g (.par2 i j A B)) := (ps_par hc hN hi hj hij hx hy ha hw hs).weak fun Dn σ H ⟨Z, G, μ, ρ, hv, rl, h⟩ => by
  simp only [evalS] at h
  refine sAs_then rl h fun ds vs G1 μ1 H1 _ rl1 rs h => ?_
  cases ds with
  | nil => exact False.elim h
  | cons d r =>
    cases r with
    | nil => exact False.elim h
    | cons d2 r =>
      cases r with
      | cons d3 r => exact False.elim h
      | nil =>
        simp only [Reps] at rs
        obtain ⟨v, _, rfl, hv1, w, _, rfl, hw1, rfl⟩ := rs
        obtain ⟨ρ1, e1, h1⟩ := h.oMb
        obtain ⟨ρ2, e2, h2⟩ := h1.oMb
        obtain ⟨hi1, rfl⟩ := slotO_some e1
        obtain ⟨hi2, rfl⟩ := slotO_some e2
        exact ⟨v, w, rfl, h2 G1 _ H1 ((rl1.setVal hv1 hi1).setVal hw1 hi2)⟩
theorem ps_parr3 {i j l : Nat} {x y z : Str} {px py pz pt : Pos} {kt : Nat} {k2 : Nat} {pt2 : Pos} (hc : X.calm = true) (hN : X.N.Nodup) (hi : X.N[i]? = some x) (hj : X.N[j]? = some y) (hl : X.N[l]? = some z) (hij : i ≠ j) (hil : i ≠ l) (hjl : j ≠ l)
    (hx : X.env.scope.names.lookup x = some .local) (hy : X.env.scope.names.lookup y = some .local) (hz : X.env.scope.names.lookup z = some .local) (ha : PA X [a, b, c] (tAs X.K Ca W C g [A, B, A2]))
    (hw : swappedStores [.Tuple [.Name x px, .Name y py, .Name z pz] kt pt] (.Tuple [a, b, c] k2 pt2) X.env = pure (some [x, y, z]))
    (hs : swapsWithSole [.Tuple [.Name x px, .Name y py, .Name z pz] kt pt] (.Tuple [a, b, c] k2 pt2) pos.line X.env = pure false) :
    PS X (.Assign [.Tuple [.Name x px, .Name y py, .Name z pz] kt pt] (.Tuple [a, b, c] k2 pt2) pos) (tS X.K Ca W C g (.par3 i j l A B A2)) := (ps_par3 hc hN hi hj hl hij hil hjl hx hy hz ha hw hs).weak fun Dn σ H ⟨Z, G, μ, ρ, hv, rl, h⟩ => by
  simp only [evalS] at h
  refine sAs_then rl h fun ds vs G1 μ1 H1 _ rl1 rs h => ?_
  match ds, rs, h with
  | [d, d2, d3], rs, h =>
    simp only [Reps] at rs
    obtain ⟨v, _, rfl, hv1, w, _, rfl, hw1, u, _, rfl, hu1, rfl⟩ := rs
    obtain ⟨ρ1, e1, h1⟩ := h.oMb
    obtain ⟨ρ2, e2, h2⟩ := h1.oMb
    obtain ⟨ρ3, e3, h3⟩ := h2.oMb
    obtain ⟨hi1, rfl⟩ := slotO_some e1
    obtain ⟨hi2, rfl⟩ := slotO_some e2
    obtain ⟨hi3, rfl⟩ := slotO_some e3
    exact ⟨v, w, u, rfl, h3 G1 _ H1 (((rl1.setVal hv1 hi1).setVal hw1 hi2).setVal hu1 hi3)⟩
  | [], _, h => exact False.elim h
  | [_], _, h => exact False.elim h
  | [_, _], _, h => exact False.elim h
  | _ :: _ :: _ :: _ :: _, _, h => exact False.elim h
/-! ### lists and dicts written -/
def rSet : TSet := fun o i v H Q => rSetL o i v H Q ∨ rSetD o i v H Q
theorem set_both (hu : X.A.units + 1 < cLine) : PSet X rSet := by
  intro pins s σ H o i v ov iv u Q I ro ri rv h
  rcases h with h | h
  · exact set_list pins s σ H o i v ov iv u Q I ro ri rv h
  · exact set_dict hu pins s σ H o i v ov iv u Q I ro ri rv h
theorem setD_some {ds ds' : List D} {i d : D} (h : setD ds i d = some ds') : ∃ k j, i = .int k ∧ ixN ds.length k = some j ∧ ds' = ds.set j d := by
  unfold setD at h
  split at h
  · obtain ⟨j, e, rfl⟩ := Option.map_eq_some_iff.mp h
    exact ⟨_, j, rfl, e, rfl⟩
  · cases h
theorem setK_put {K : PySem.W.Frag} {G : Gh} {H : Hp} {kvs : List (Key × D)} {vs : List (Key × V)} {k : Key} {d : D} {v : V} (r : KvR K G H kvs vs) (rv : Rep K G H d v) : KvR K G H (setK kvs k d) (putK vs k v) := by
  unfold setK putK
  exact KvR.put k r rv
theorem put_core {Z : Ent} {G : Gh} {μ : Sto} {ρ : Env} {hv : List (D × V)} {σ : St} {H : Hp} {Dn : Ends} {y : RV} {p q v : V} {di d : D} (rl : Rl X.K Ca Z G μ ρ hv σ H) (hy : Hd X.K G H ρ σ y.d p) (hb : ∀ i ds, y = .bo i ds → ρ[i]? = some (.own ds) ∧ σ[i]? = some (some p))
    (hi : Hd X.K G H ρ σ di q) (hd : Rep X.K G H d v) (h : AtR X.K Ca W Z (putM ρ y di d μ) Dn) : rSet p q v H fun H' => Dn.nx σ H' := by
  cases y with
  | fr ds => exact False.elim h
  | bo k ds =>
    obtain ⟨ds', es, h⟩ := h.oMb
    obtain ⟨kk, j, rfl, ej, rfl⟩ := setD_some es
    obtain ⟨h1, h2⟩ := hb k ds rfl
    obtain ⟨a, vs, e1, hp, hr, h0⟩ := rl.sl.prv h1
    rw [h2] at e1; cases e1
    refine .inl ⟨a, vs, kk, j, rfl, hi.int, hp.at_, by rw [← hr.length]; exact ej, ?_⟩
    exact h G σ _ (rl.updOwn h1 h2 hp h0 fun st => (st.reps _ _ hr).set j (st.rep _ _ hd))
  | v dd =>
    cases dd with
    | ref n =>
      unfold putM at h
      cases em : μ[n]? with
      | none => simp only [em] at h; exact h.elim
      | some c =>
        obtain ⟨a, rfl, hn, hc⟩ := rl.cellAt hy em
        cases c with
        | lst xs =>
          obtain ⟨vs, h1, r1⟩ := hc
          simp only [em] at h
          cases es : setD xs di d with
          | none => rw [es] at h; exact h.elim
          | some ds' =>
            rw [es] at h
            obtain ⟨kk, j, rfl, ej, rfl⟩ := setD_some es
            obtain ⟨e2, ok2⟩ := putCell (Ca := Ca) (c' := .lst (xs.set j d)) (o := .lst (vs.set j v)) rl.ok hn em (by intro z; cases z) fun st => ⟨_, upd_same, (st.reps _ _ r1).set j (st.rep _ _ hd)⟩
            exact .inl ⟨a, vs, kk, j, rfl, hi.int, h1, by rw [← r1.length]; exact ej, h G σ _ ((rl.step e2 ok2).drop fun p hp => by cases hp)⟩
        | dct kvs =>
          obtain ⟨vs, h1, r1⟩ := hc
          simp only [em] at h
          cases ek : keyD di with
          | none => rw [ek] at h; exact h.elim
          | some k =>
            simp only [ek, Option.bind_some] at h
            by_cases hz : kvs.length < sizeLine
            · rw [if_pos hz] at h
              obtain ⟨e2, ok2⟩ := putCell (Ca := Ca) (c' := .dct (setK kvs k d)) (o := .dK (putK vs k v)) rl.ok hn em (by intro z; cases z) fun st => ⟨_, upd_same, setK_put (st.kv _ _ r1) (st.rep _ _ hd)⟩
              exact .inr ⟨a, _, rfl, .inl ⟨vs, k, h1, hi.key ek, by rw [← r1.length]; exact hz, rfl⟩, h G σ _ ((rl.step e2 ok2).drop fun p hp => by cases hp)⟩
            · rw [if_neg hz] at h; exact h.elim
        | _ => simp only [em] at h; exact h.elim
    | _ => exact False.elim h
theorem ps_putt {k : Nat} {tpos : Pos} (hr : Room k X.A) (ho : PE X o (tE X.K Ca W C g O)) (hi : PE X i (tE X.K Ca W C g I')) (he : PE X e (tE X.K Ca W C g E'))
    (ha : ∀ v, assign (.Subscript o i tpos) X.env v = (do
      let ov ← holding [v] (eval o X.env)
      let iv ← holding [v, ov] (eval i X.env)
      standAt tpos
      holding [v, ov, iv] (setItem ov iv v)
      release [v, ov, iv] []))
    (hs : swapsWithSole [.Subscript o i tpos] e pos.line X.env = pure false) (hw : swappedStores [.Subscript o i tpos] e X.env = pure none) (h1 : (assignEach [.Subscript o i tpos] X.env).map (·.2) = [assign (.Subscript o i tpos) X.env]) :
    PS X (.Assign [.Subscript o i tpos] e pos) (tS X.K Ca W C g (.put O I' E')) :=
  (ps_asg he (pg_sub ho hi (set_both (by have := hr.un; omega)) ha) hs hw h1).weak fun Dn σ H ⟨Z, G, μ, ρ, hv, rl, h⟩ => by
    simp only [evalS] at h
    refine sE_then rl h fun x v G1 μ1 H1 _ rl1 v1 _ h => ?_
    obtain ⟨d, ed, h⟩ := h.val
    have hd1 := v1 d ed
    refine sE_then rl1 h fun y p G2 μ2 H2 e2 rl2 _ b2 h => ?_
    refine sE_then rl2 h fun z q G3 μ3 H3 e3 rl3 _ _ h => ?_
    exact put_core rl3 (rl3.hv _ (List.mem_cons_of_mem _ List.mem_cons_self)) b2 (rl3.hv _ List.mem_cons_self) ((e3.stay rl2.ok).rep _ _ ((e2.stay rl1.ok).rep _ _ hd1)) h
theorem isLst_ok {Z : Ent} {Dn : Ends} {rv : RV} {μ : Sto} {k : Unit → M Flo} {K : PySem.W.Frag} (h : AtR K Ca W Z (M.bind (isLst rv) k μ) Dn) : AtR K Ca W Z (k () μ) Dn ∧ ((∃ i ds, rv = .bo i ds) ∨ ∃ n xs, rv = .v (.ref n) ∧ μ[n]? = some (.lst xs)) := by
  cases rv with
  | bo i ds => exact ⟨h, .inl ⟨i, ds, rfl⟩⟩
  | fr ds => exact False.elim h
  | v d =>
    cases d with
    | ref n =>
      unfold M.bind isLst at h
      cases em : μ[n]? with
      | none => simp only [em] at h; exact h.elim
      | some c =>
        cases c with
        | lst xs => simp only [em] at h; exact ⟨h, .inr ⟨n, xs, rfl, em⟩⟩
        | _ => simp only [em] at h; exact h.elim
    | _ => exact False.elim h
/-- the list ahead of an append -/
theorem ext_ty {Z : Ent} {G : Gh} {μ : Sto} {ρ : Env} {hv : List (D × V)} {σ : St} {H : Hp} {y : RV} {p : V} (rl : Rl X.K Ca Z G μ ρ hv σ H) (hy : Hd X.K G H ρ σ y.d p) (hb : ∀ i ds, y = .bo i ds → ρ[i]? = some (.own ds) ∧ σ[i]? = some (some p))
    (h : (∃ i ds, y = .bo i ds) ∨ ∃ n xs, y = .v (.ref n) ∧ μ[n]? = some (.lst xs)) : tyV X.K "list" p H := by
  rcases h with ⟨i, ds, rfl⟩ | ⟨n, xs, rfl, em⟩
  · obtain ⟨h1, h2⟩ := hb i ds rfl
    obtain ⟨a, vs, e1, hp, hr, h0⟩ := rl.sl.prv h1
    rw [h2] at e1; cases e1
    exact .inl ⟨rfl, vs, .inl (.inl hp.at_)⟩
  · obtain ⟨a, rfl, hn, vs, h1, r1⟩ := rl.cellAt hy em
    exact .inl ⟨rfl, vs, .inl (.inl h1)⟩
theorem ext_core {Z : Ent} {G : Gh} {μ : Sto} {ρ : Env} {hv : List (D × V)} {σ : St} {H : Hp} {Dn : Ends} {y : RV} {p : V} {ds : List D} {ws : List V} (rl : Rl X.K Ca Z G μ ρ hv σ H) (hy : Hd X.K G H ρ σ y.d p) (hb : ∀ i ds, y = .bo i ds → ρ[i]? = some (.own ds) ∧ σ[i]? = some (some p))
    (hr : Reps X.K G H ds ws) (h : AtR X.K Ca W Z (extM ρ y ds μ) Dn) : ∃ a vs, p = .ref a ∧ H a = some (.lst vs) ∧ vs.length + ws.length ≤ sizeLine ∧ Dn.nx σ (upd H a (.lst (vs ++ ws))) := by
  cases y with
  | fr ds => exact False.elim h
  | bo k xs =>
    simp only [extM] at h
    obtain ⟨h1, h2⟩ := hb k xs rfl
    obtain ⟨a, vs, e1, hp, hr1, h0⟩ := rl.sl.prv h1
    rw [h2] at e1; cases e1
    by_cases hz : xs.length + ds.length ≤ sizeLine
    · rw [if_pos hz] at h
      exact ⟨a, vs, rfl, hp.at_, by rw [← hr1.length, ← hr.length]; exact hz, h G σ _ (rl.updOwn h1 h2 hp h0 fun st => (st.reps _ _ hr1).append (st.reps _ _ hr))⟩
    · rw [if_neg hz] at h; exact False.elim h
  | v dd =>
    cases dd with
    | ref n =>
      unfold extM at h
      cases em : μ[n]? with
      | none => simp only [em] at h; exact h.elim
      | some c =>
        obtain ⟨a, rfl, hn, hc⟩ := rl.cellAt hy em
        cases c with
        | lst xs =>
          obtain ⟨vs, h1, r1⟩ := hc
          simp only [em] at h
          by_cases hz : xs.length + ds.length ≤ sizeLine
          · rw [if_pos hz] at h
            obtain ⟨e2, ok2⟩ := putCell (Ca := Ca) (c' := .lst (xs ++ ds)) (o := .lst (vs ++ ws)) rl.ok hn em (by intro z; cases z) fun st => ⟨_, upd_same, (st.reps _ _ r1).append (st.reps _ _ hr)⟩
            exact ⟨a, vs, rfl, h1, by rw [← r1.length, ← hr.length]; exact hz, h G σ _ ((rl.step e2 ok2).drop fun p hp => by cases hp)⟩
          · rw [if_neg hz] at h; exact h.elim
        | _ => simp only [em] at h; exact h.elim
    | _ => exact False.elim h
theorem ps_appp {apos cpos : Pos} (ho : PE X o (tE X.K Ca W C g O)) (he : PA X [e] (tAs X.K Ca W C g [E'])) (hbase : attributeBase o "append" X.env (eval o X.env) = eval o X.env)
    (hfew : ((backTo cpos (starEach (e :: []) X.env)).all (fun x => !x.1) && (backToKw cpos (keywordEach [] X.env)).all (fun x => x.1.isSome) && decide ((e :: []).length + ([] : List Keyword).length + (if ([] : List Keyword).isEmpty then 0 else 1) < 30)) = true)
    (hline : (apos.endLine == cpos.line) = true) (hs : starEach [e] X.env = (false, eval e X.env) :: starEach [] X.env) (hpl : (backTo cpos (starEach [] X.env)).any (·.1) = false) (hsw : swapsWith (.Call (.Attribute o "append" apos) [e] [] cpos) none pos.line X.env = pure false) :
    PS X (.Expr (.Call (.Attribute o "append" apos) [e] [] cpos) pos) (tS X.K Ca W C g (.app O E')) :=
  (ps_expr (pe_bm F.plainAttrs_list F.slot_list_append F.type_list_append mt_append ho he hbase hfew hline hs hpl) hsw).weak fun Dn σ H ⟨Z, G, μ, ρ, hv, rl, h⟩ => by
    simp only [evalS] at h
    refine sE_then rl h fun y p G1 μ1 H1 _ rl1 v1 b1 h => ?_
    obtain ⟨h, hl⟩ := isLst_ok h
    refine ⟨ext_ty rl1 (rl1.hv _ List.mem_cons_self) b1 hl, ?_⟩
    refine sAs_then rl1 h fun ds ws G2 μ2 H2 _ rl2 rs h => ?_
    match ds, rs, h with
    | [d], rs, h =>
      have rs0 := rs
      simp only [Reps] at rs
      obtain ⟨w, _, rfl, hw, rfl⟩ := rs
      obtain ⟨a, vs, rfl, h1, hz, q⟩ := ext_core rl2 (rl2.hv _ List.mem_cons_self) b1 rs0 h
      exact ⟨a, vs, w, rfl, rfl, h1, by simp at hz; omega, q⟩
    | [], _, h => exact False.elim h
    | _ :: _ :: _, _, h => exact False.elim h
end
end J
/-! loops, returns. -/
namespace J
open PySem L2 PySem.Spec PyProof.Rows
section
variable {X : Cx} {Ca : Str → Addr} {W : WX} {C : Calls} {g : List D} {a b c o i e tg iter : Expr} {A B A2 O I' E' IT : E} {pos : Pos} {st : Stmt} {sts as bs : List Stmt} {s : S} {ss As Bs : List S}
theorem ps_extt {apos cpos : Pos} (ho : PE X o (tE X.K Ca W C g O)) (he : PA X [e] (tAs X.K Ca W C g [E'])) (hbase : attributeBase o "extend" X.env (eval o X.env) = eval o X.env)
    (hfew : ((backTo cpos (starEach (e :: []) X.env)).all (fun x => !x.1) && (backToKw cpos (keywordEach [] X.env)).all (fun x => x.1.isSome) && decide ((e :: []).length + ([] : List Keyword).length + (if ([] : List Keyword).isEmpty then 0 else 1) < 30)) = true)
    (hline : (apos.endLine == cpos.line) = true) (hs : starEach [e] X.env = (false, eval e X.env) :: starEach [] X.env) (hpl : (backTo cpos (starEach [] X.env)).any (·.1) = false) (hsw : swapsWith (.Call (.Attribute o "extend" apos) [e] [] cpos) none pos.line X.env = pure false) :
    PS X (.Expr (.Call (.Attribute o "extend" apos) [e] [] cpos) pos) (tS X.K Ca W C g (.ext O E')) :=
  (ps_expr (pe_bm F.plainAttrs_list F.slot_list_extend F.type_list_extend mt_extend ho he hbase hfew hline hs hpl) hsw).weak fun Dn σ H ⟨Z, G, μ, ρ, hv, rl, h⟩ => by
    simp only [evalS] at h
    refine sE_then rl h fun y p G1 μ1 H1 _ rl1 v1 b1 h => ?_
    obtain ⟨h, hl⟩ := isLst_ok h
    refine ⟨ext_ty rl1 (rl1.hv _ List.mem_cons_self) b1 hl, ?_⟩
    refine sAs_then rl1 h fun ds ws G2 μ2 H2 _ rl2 rs h => ?_
    match ds, rs, h with
    | [.lst es], rs, h =>
      simp only [Reps] at rs
      obtain ⟨w, _, rfl, hw, rfl⟩ := rs
      obtain ⟨q, zs, rfl, hq, rq⟩ := lsR_of hw
      obtain ⟨a, vs, rfl, h1, hz, q'⟩ := ext_core rl2 (rl2.hv _ List.mem_cons_self) b1 rq h
      exact ⟨a, q, vs, zs, rfl, rfl, h1, hq.2, hz, q'⟩
    | [], _, h => exact False.elim h
    | [.non], _, h => exact False.elim h
    | [.bl _], _, h => exact False.elim h
    | [.int _], _, h => exact False.elim h
    | [.str _], _, h => exact False.elim h
    | [.tup _], _, h => exact False.elim h
    | [.ref _], _, h => exact False.elim h
    | [.src _], _, h => exact False.elim h
    | d :: _ :: _, _, h => cases d <;> exact False.elim h
theorem ps_rett (he : PE X e (tE X.K Ca W C g A)) : PS X (.Return (some e) pos) (tS X.K Ca W C g (.ret A)) :=
  (ps_ret he).weak fun Dn σ H ⟨Z, G, μ, ρ, hv, rl, h⟩ => by
    simp only [evalS] at h
    refine sE_raw rl h fun rv x G1 μ1 H1 e1 rl1 r1 h => ?_
    refine h G1 x H1 rl1.ext rl1.ok ?_
    cases rv with
    | v d => exact r1
    | fr ds =>
      obtain ⟨p, vs, rfl, q0, q1, q2, q3, q4⟩ := r1
      exact ⟨p, vs, rfl, rl.ext.old p q0, q1, q2, q3, q4⟩
    | bo i ds =>
      obtain ⟨h1, h2⟩ := r1
      obtain ⟨a, vs, e1, hp, hr, h0⟩ := rl1.sl.prv h1
      rw [h2] at e1; cases e1
      exact ⟨a, vs, rfl, h0, hp.at_, hr, hp.nf, hp.np⟩
theorem ps_iff (hc : PT X c (tT X.K Ca W C g A)) (ha : PSs X as (tSs X.K Ca W C g As)) (hb : PSs X bs (tSs X.K Ca W C g Bs)) : PS X (.If c as bs pos) (tS X.K Ca W C g (.ifs A As Bs)) :=
  (ps_if hc ha hb).weak fun Dn σ H ⟨Z, G, μ, ρ, hv, rl, h⟩ => by
    simp only [evalS] at h
    refine ⟨Z, G, μ, ρ, hv, rl, (stE_at (R := RB) rl h).imp fun G1 μ1 H1 k k' e1 ok1 r1 f => ?_⟩
    obtain ⟨k2, G2, μ2, e2, ok2, r2, q⟩ := f k' r1
    have r2 : k2 = k' := r2
    subst r2
    cases k2 with
    | true => rw [if_pos rfl] at q ⊢; exact ⟨Z, G2, μ2, ρ, hv, rl.step e2 ok2, q⟩
    | false => rw [if_neg Bool.false_ne_true] at q ⊢; exact ⟨Z, G2, μ2, ρ, hv, rl.step e2 ok2, q⟩
theorem ps_exprr (he : PE X e (tE X.K Ca W C g A)) (hs : swapsWith e none pos.line X.env = pure false) : PS X (.Expr e pos) (tS X.K Ca W C g (.expr A)) :=
  (ps_expr he hs).weak fun Dn σ H ⟨Z, G, μ, ρ, hv, rl, h⟩ => by
    simp only [evalS] at h
    exact sE_then rl h fun rv x G1 μ1 H1 e1 rl1 _ _ h => h G1 σ H1 (rl1.drop fun p hp => by cases hp)
theorem ps_passs : PS X (.Pass pos) (tS X.K Ca W C g .pass) := ps_pass.weak fun Dn σ H ⟨Z, G, μ, ρ, hv, rl, h⟩ => by
  simp only [evalS] at h
  exact h G σ H (rl.drop fun p hp => by cases hp)
theorem ps_contt : PS X (.Continue pos) (tS X.K Ca W C g .cont) := ps_continue.weak fun Dn σ H ⟨Z, G, μ, ρ, hv, rl, h⟩ => by
  simp only [evalS] at h
  exact h G σ H (rl.drop fun p hp => by cases hp)
/-! ### for -/
theorem stE_bind {α β : Type} {ρ : Env} {m : M α} {f : α → M β} {k : β → M Flo} : stE ρ (M.bind m f) k = stE ρ m fun a => stE ρ (f a) k := by
  funext μ
  unfold stE M.bind
  cases m μ with
  | none => rfl
  | some r => cases r <;> rfl
theorem stE_oM {β : Type} {ρ : Env} {o : Option β} {k : β → M Flo} : stE ρ (oM o) k = M.bind (oM o) k := by
  cases o <;> rfl
theorem fors_eq {t : T} {it : E} {b : List S} {ρ : Env} : evalS C g (.fors t it b) ρ = stE ρ (evalW C g it ρ) fun ds => eachM (fun d ρ => M.bind (oM (bindT t d ρ)) fun ρ1 => evalSs C g b ρ1) ds ρ := by
  simp only [evalS]
  unfold evalW
  rw [stE_bind]
  congr 1
  funext x
  cases x
  · exact stE_oM.symm
  · exact stE_oM.symm
  · rfl
/-- another anchor -/
def Ent.at (Z : Ent) (G : Gh) (H : Hp) : Ent := ⟨Z.G, Z.μ, Z.H, G, H⟩
section
variable {K : PySem.W.Frag} {Z : Ent} {G G1 : Gh} {μ μ1 : Sto} {ρ : Env} {hv : List (D × V)} {σ : St} {H H1 : Hp} {Dn : Ends}
theorem Rl.to (rl : Rl K Ca Z G μ ρ hv σ H) : Rl K Ca (Z.at G H) G μ ρ hv σ H := ⟨rl.ext, rl.ok, rl.sl, rl.hv, Stay.refl _ _⟩
theorem Rl.back {G0 : Gh} {H0 : Hp} (st : Stay K Z.Ga Z.Ha G0 H0) (rl : Rl K Ca (Z.at G0 H0) G μ ρ hv σ H) : Rl K Ca Z G μ ρ hv σ H := ⟨rl.ext, rl.ok, rl.sl, rl.hv, st.trans rl.anc⟩
theorem AtR.to {G0 : Gh} {H0 : Hp} (st : Stay K Z.Ga Z.Ha G0 H0) {r : Option (Res Flo)} (h : AtR K Ca W Z r Dn) : AtR K Ca W (Z.at G0 H0) r Dn := by
  unfold AtR at h ⊢
  split at h
  · exact fun G1 σ1 H1 rl => h G1 σ1 H1 (rl.back st)
  · exact fun G1 σ1 H1 rl => h G1 σ1 H1 (rl.back st)
  · exact h
  · exact fun G1 σ1 H1 cls d rl => h G1 σ1 H1 cls d (rl.back st)
  · exact h.elim
end
theorem ps_forr {t : T} (hp : PassesOwn (model X.prog X.w) X.A X.env X.xe) (hc : X.calm = true) (hi : PI X tg iter (tI X.K Ca W C g IT)) (hg : PG X tg (gT X.K Ca t)) (hb : PSs X bs (tSs X.K Ca W C g Bs)) (hs : ∀ x, foldedSetIterable iter X.env x = pure x) :
    PS X (.For tg iter bs [] pos) (tS X.K Ca W C g (.fors t IT Bs)) :=
  (ps_for hp hc hi hg hb hs).weak fun Dn σ H ⟨Z, G, μ, ρ, hv, rl, h⟩ => by
    rw [fors_eq] at h
    refine ⟨Z, G, μ, ρ, hv, rl, (stE_at (R := RW X.K Ca) rl h).imp fun G1' μ1' H1 ds' Jt e1' ok1' r1' f => ?_⟩
    obtain ⟨ds, G2, μ2, e2, ok2, r2, q⟩ := f Jt r1'
    have rl2 := (rl.step e2 ok2).drop (hw := []) fun p hp => by cases hp
    have q3 := q.to rl2.anc
    have rl3 := rl2.to
    clear q h f
    refine ⟨fun i m σ' Hc => m = ds.length - i ∧ i ≤ ds.length ∧ ∃ Gc μc ρc, Rl X.K Ca (Z.at G2 H1) Gc μc ρc [] σ' Hc ∧ AtR X.K Ca W (Z.at G2 H1) (eachM (fun d ρ => M.bind (oM (bindT t d ρ)) fun ρ1 => evalSs C g Bs ρ1) (ds.drop i) ρc μc) Dn,
      ⟨ds.length, by simp, Nat.zero_le _, G2, μ2, ρ, rl3, q3⟩, ?_⟩
    rintro i m σ' Hc ⟨rfl, hi, Gc, μc, ρc, rlc, ac⟩
    obtain ⟨wstop, wgo⟩ := r2 i Gc μc Hc rlc.anc rlc.ok
    by_cases hlt : i < ds.length
    · obtain ⟨go, hy⟩ := wgo _ (List.getElem?_eq_getElem hlt)
      rw [List.drop_eq_getElem_cons hlt] at ac
      simp only [eachM] at ac
      refine .inr ⟨go, fun σ2 H2 => ∃ Gc μc ρc, Rl X.K Ca (Z.at G2 H1) Gc μc ρc [] σ2 H2 ∧ AtR X.K Ca W (Z.at G2 H1) (eachM (fun d ρ => M.bind (oM (bindT t d ρ)) fun ρ1 => evalSs C g Bs ρ1) (ds.drop (i + 1)) ρc μc) Dn,
        fun σ2 H2 n => ⟨ds.length - (i + 1), by omega, rfl, hlt, n⟩, fun x H' y => ?_⟩
      obtain ⟨G', ex', ok', rx⟩ := hy x H' y
      cases eb : bindT t ds[i] ρc with
      | none => rw [eb] at ac; exact False.elim ac
      | some ρ1 =>
        rw [eb] at ac
        refine ⟨Z.at G2 H1, G', μc, ρc, [], ds[i], ρ1, rlc.step ex' ok', rx, eb, fun σ1 rl1 _ => ⟨Z.at G2 H1, G', μc, ρ1, [], rl1, ?_⟩⟩
        have ac : AtR X.K Ca W (Z.at G2 H1) (M.bind (evalSs C g Bs ρ1) (fun o => match o with
          | .nx ρ1 => eachM (fun d ρ => M.bind (oM (bindT t d ρ)) fun ρ1 => evalSs C g Bs ρ1) (ds.drop (i + 1)) ρ1
          | .ct ρ1 => eachM (fun d ρ => M.bind (oM (bindT t d ρ)) fun ρ1 => evalSs C g Bs ρ1) (ds.drop (i + 1)) ρ1
          | y => M.pure y) μc) Dn := ac
        unfold M.bind at ac
        cases q : evalSs C g Bs ρ1 μc with
        | none => rw [q] at ac; exact ac
        | some r =>
          rw [q] at ac
          cases r with
          | exc x μ1 => exact ac
          | ok f μ1 =>
            cases f with
            | nx ρ2 => exact fun G1 σ1 H1 rl1 => ⟨G1, μ1, ρ2, rl1, ac⟩
            | ct ρ2 => exact fun G1 σ1 H1 rl1 => ⟨G1, μ1, ρ2, rl1, ac⟩
            | rt r => exact ac
            | ex x ρ2 => exact ac
    · have e : i = ds.length := by omega
      subst e
      rw [List.drop_length] at ac
      simp only [eachM] at ac
      exact .inl ⟨wstop (Nat.le_refl _), ac Gc σ' Hc rlc⟩
/-! ### while -/
inductive Runs {σ β : Type} (step : σ → Option (σ ⊕ β)) : Nat → σ → β → Prop
  | stop {s : σ} {b : β} (h : step s = some (.inr b)) : Runs step 0 s b
  | go {n : Nat} {s s' : σ} {b : β} (h : step s = some (.inl s')) (r : Runs step n s' b) : Runs step (n + 1) s b
theorem loopF_runs {σ β : Type} {step : σ → Option (σ ⊕ β)} {b : β} : ∀ {n : Nat} {s : σ}, loopF step n s = some b → ∃ m, m < n ∧ Runs step m s b
  | 0, s, h => by cases h
  | n + 1, s, h => by
    simp only [loopF] at h
    cases q : step s with
    | none => rw [q] at h; cases h
    | some r =>
      rw [q] at h
      cases r with
      | inl s' =>
        obtain ⟨m, hm, hr⟩ := loopF_runs (n := n) (s := s') h
        exact ⟨m + 1, by omega, .go q hr⟩
      | inr b' =>
        cases h
        exact ⟨0, by omega, .stop q⟩
theorem runs_loopF {σ β : Type} {step : σ → Option (σ ⊕ β)} {m n : Nat} {s : σ} {b : β} (h : Runs step m s b) (hm : m < n) : loopF step n s = some b := by
  induction h generalizing n with
  | stop h =>
    cases n with
    | zero => omega
    | succ n => simp only [loopF, h]
  | go h _ ih =>
    cases n with
    | zero => omega
    | succ n => simp only [loopF, h]; exact ih (by omega)
theorem ps_whll (hp : PassesOwn (model X.prog X.w) X.A X.env X.xe) (hc : PT X c (tT X.K Ca W C g A)) (hb : PSs X bs (tSs X.K Ca W C g Bs)) : PS X (.While c bs [] pos) (tS X.K Ca W C g (.whl A Bs)) :=
  (ps_while hp hc hb).weak fun Dn σ H ⟨Z, G, μ, ρ, hv, rl, h⟩ => by
    simp only [evalS] at h
    cases q : loopF (whlStep (fun ρ => evalT C g A ρ) (fun ρ => evalSs C g Bs ρ)) fuelW (ρ, μ) with
    | none => rw [q] at h; exact False.elim h
    | some r =>
      rw [q] at h
      obtain ⟨n, _, hn⟩ := loopF_runs q
      refine ⟨fun m σ' H' => ∃ Gc μc ρc, Rl X.K Ca Z Gc μc ρc [] σ' H' ∧ Runs (whlStep (fun ρ => evalT C g A ρ) (fun ρ => evalSs C g Bs ρ)) m (ρc, μc) r, ⟨n, G, μ, ρ, rl.drop (fun p hp => by cases hp), hn⟩, ?_⟩
      rintro m σ' H' ⟨Gc, μc, ρc, rlc, hr⟩
      refine ⟨Z, Gc, μc, ρc, [], rlc, ?_⟩
      unfold At
      cases qt : evalT C g A ρc μc with
      | none =>
        cases hr with
        | stop z => unfold whlStep at z; simp only [qt] at z; cases z
        | go z _ => unfold whlStep at z; simp only [qt] at z; cases z
      | some rt =>
        cases rt with
        | exc x μ1 =>
          intro G1 H1 cls d e ok ex
          cases hr with
          | stop z =>
            unfold whlStep at z
            simp only [qt, Option.some.injEq, Sum.inr.injEq] at z
            subst z
            exact h G1 σ' H1 cls d (rlc.step e ok) ex
          | go z _ => unfold whlStep at z; simp only [qt] at z; cases z
        | ok k μ1 =>
          intro G1 v H1 e ok rk
          have rk : k = v := rk
          subst rk
          have rl1 := rlc.step e ok
          cases k with
          | false =>
            rw [if_neg Bool.false_ne_true]
            cases hr with
            | stop z =>
              unfold whlStep at z
              simp only [qt, Option.some.injEq, Sum.inr.injEq] at z
              subst z
              exact h G1 σ' H1 rl1
            | go z _ => unfold whlStep at z; simp only [qt] at z; cases z
          | true =>
            rw [if_pos rfl]
            cases hr with
            | stop z =>
              refine ⟨fun _ _ => False, fun _ _ f => f.elim, Z, G1, μ1, ρc, [], rl1, ?_⟩
              unfold whlStep at z
              simp only [qt] at z
              cases qb : evalSs C g Bs ρc μ1 with
              | none => rw [qb] at z; cases z
              | some rb =>
                rw [qb] at z
                cases rb with
                | exc x μ2 => simp only [Option.some.injEq, Sum.inr.injEq] at z; subst z; exact h
                | ok f μ2 =>
                  cases f with
                  | nx ρ2 => cases z
                  | ct ρ2 => cases z
                  | rt r => simp only [Option.some.injEq, Sum.inr.injEq] at z; subst z; exact h
                  | ex x ρ2 => simp only [Option.some.injEq, Sum.inr.injEq] at z; subst z; exact h
            | @go n' _ s' _ z rest =>
              obtain ⟨ρ2, μ2⟩ := s'
              refine ⟨fun σ2 H2 => ∃ G2, Rl X.K Ca Z G2 μ2 ρ2 [] σ2 H2, fun σ2 H2 ⟨G2, rl2⟩ => ⟨n', Nat.lt_succ_self _, G2, μ2, ρ2, rl2, rest⟩, Z, G1, μ1, ρc, [], rl1, ?_⟩
              unfold whlStep at z
              simp only [qt] at z
              cases qb : evalSs C g Bs ρc μ1 with
              | none => rw [qb] at z; cases z
              | some rb =>
                rw [qb] at z
                cases rb with
                | exc x μ3 => cases z
                | ok f μ3 =>
                  cases f with
                  | nx ρ3 => cases z; exact fun G1 σ1 H1 rl1 => ⟨G1, rl1⟩
                  | ct ρ3 => cases z; exact fun G1 σ1 H1 rl1 => ⟨G1, rl1⟩
                  | rt r => cases z
                  | ex x ρ3 => cases z
end
end J
/-! dict displays. -/
namespace J
open PySem L2 PySem.Spec PyProof.Rows
theorem updFree {K : PySem.W.Frag} {Ca : Str → Addr} {Gb G : Gh} {μb μ : Sto} {Hb H : Hp} {p : Addr} {o o' : HO} (hp : H p = some o) (nf : ¬ G.Fz p) (np : ∀ n : Nat, G.φ[n]? ≠ some p) (no : ∀ xs, o ≠ .tup xs ∧ ∀ ob, o ≠ .frz ob (.tup xs)) (e : Ext Gb μb Hb G μ H) (ok : Okk K Ca G μ H) (hb : Hb p = none) :
    Ext Gb μb Hb G μ (upd H p o') ∧ Okk K Ca G μ (upd H p o') ∧ Stay K G H G (upd H p o') := by
  have st : Stay K G H G (upd H p o') := ⟨fun _ _ h => h, fun _ h => h, fun b v q t => by
      have : b ≠ p := fun z => by
        rw [z, hp] at q; cases q
        obtain ⟨xs, t⟩ := t
        rcases t with t | ⟨ob, t⟩
        · exact (no xs).1 t
        · exact (no xs).2 ob t
      rw [upd_ne this]; exact q, fun b v q f => by
      have : b ≠ p := fun z => nf (z ▸ f)
      rw [upd_ne this]; exact q⟩
  have none_ : ∀ b, upd H p o' b = none → H b = none := fun b q => by
    by_cases z : b = p
    · rw [z, upd_same] at q; cases q
    · rw [upd_ne z] at q; exact q
  refine ⟨⟨e.pre, e.new, e.fz, e.fzn, fun b v q nl => ?_, fun b q => e.old b (none_ b q), e.lv⟩, ⟨ok.len, ok.nd, fun n b q z => ok.ex n b q (none_ b z), ok.nfz, fun b f z => ok.fex b f (none_ b z), fun n c b q1 q2 => ?_⟩, st⟩
  · rw [upd_ne (fun z => by rw [z, hb] at q; cases q)]; exact e.keep b v q nl
  · refine (ok.cell n c b q1 q2).step st fun v q => ?_
    rw [upd_ne (fun z => np n (by rw [← z]; exact q2))]; exact q
section
variable {X : Cx} {Ca : Str → Addr} {W : WX} {C : Calls} {g : List D} {pos : Pos}
def pairV (ks : List Key) (vs : List V) : List (V × V) := (ks.zip vs).map fun kv => (kV kv.1, kv.2)
def RP (K : PySem.W.Frag) (ks : List Key) : Gh → Hp → Hp → List D → List (V × V) → Prop := fun G _ H ds ps => ∃ vs, ps = pairV ks vs ∧ Reps K G H ds vs ∧ ks.length = vs.length
theorem RP.mono {K : PySem.W.Frag} {ks : List Key} : Mono (RP K ks) := fun _ _ _ _ _ _ _ r => r
def tPr (K : PySem.W.Frag) (Ca : Str → Addr) (W : WX) (C : Calls) (g : List D) (ks : List Key) (Es : List E) : St → Hp → (List (V × V) → Hp → Prop) → Prop := fun σ H Q => ∃ Z G μ ρ hv, Rl K Ca Z G μ ρ hv σ H ∧ ks.length = Es.length ∧ At K Ca W (RP K ks) σ G μ H (evalEs C g Es ρ) Q
def keyE : Key → Expr → Prop
  | .inl i, e => ∃ k p, e = .Constant (.int i) k p
  | .inr x, e => ∃ k p, e = .Constant (.str x) k p
theorem pe_key {k : Key} {e : Expr} (h : keyE k e) : PE X e (tC (kV k)) := by
  cases k with
  | inl i => obtain ⟨k, p, rfl⟩ := h; exact pe_int
  | inr x => obtain ⟨k, p, rfl⟩ := h; exact pe_str
def PrOk (X : Cx) (pos : Pos) (keys : List (Option Expr)) (vals : List Expr) (t : St → Hp → (List (V × V) → Hp → Prop) → Prop) : Prop := ∃ trs, PPs X pos keys vals trs ∧ ∀ σ H Q, t σ H Q → tPairs trs σ H Q
theorem pr_nil : PrOk X pos [] [] (tPr X.K Ca W C g [] []) := ⟨[], pps_nil, fun σ H Q ⟨Z, G, μ, ρ, hv, rl, _, h⟩ => by
  simp only [evalEs] at h
  exact h.pure rl.ok ⟨[], rfl, Reps.nil, rfl⟩⟩
theorem pr_cons {k : Key} {ks : List Key} {kx a : Expr} {keys : List (Option Expr)} {vals : List Expr} {A : E} {Es : List E} (hk : keyE k kx) (ha : PE X a (tE X.K Ca W C g A)) (h : PrOk X pos keys vals (tPr X.K Ca W C g ks Es)) : PrOk X pos (some kx :: keys) (a :: vals) (tPr X.K Ca W C g (k :: ks) (A :: Es)) := by
  obtain ⟨trs, h1, h2⟩ := h
  refine ⟨_, pps_cons (pe_key hk) ha h1, fun σ H Q ⟨Z, G, μ, ρ, hv, rl, hl, h⟩ => ?_⟩
  simp only [evalEs] at h
  show tE X.K Ca W C g A σ H fun y H2 => tPairs trs σ H2 fun ps H3 => Q ((kV k, y) :: ps) H3
  refine tE_then RP.mono rl h fun x v G1 μ1 H1 _ rl1 v1 _ h => ?_
  obtain ⟨d, ed, h⟩ := val_of h
  refine h2 _ _ _ ⟨Z, G1, μ1, ρ, _, rl1, by simpa using hl, (At.bind (R := RP X.K ks) RP.mono h).imp fun G2 μ2 H2 ds ps e2 ok2 r2 f => ?_⟩
  obtain ⟨ds', G3, μ3, e3, ok3, ⟨vs, rfl, r3, l3⟩, q⟩ := f ps r2
  exact (q G3 e3 ok3).pure ok3 ⟨v :: vs, rfl, Reps.cons ((e3.stay rl1.ok).rep _ _ (v1 d ed)) r3, by simp [l3]⟩
theorem putK_new {κ : Type} [DecidableEq κ] {kvs : List (κ × V)} {k : κ} {v : V} (h : k ∉ kvs.map (·.1)) : putK kvs k v = kvs ++ [(k, v)] := by
  unfold putK
  rw [if_neg]
  intro q
  obtain ⟨p, hp, e⟩ := List.any_eq_true.mp q
  exact h (List.mem_map.mpr ⟨p, hp, by simpa using e⟩)
theorem mergeK_new : ∀ (more kvs : List (Key × V)), ((kvs ++ more).map (·.1)).Nodup → mergeK kvs more = kvs ++ more
  | [], kvs, _ => by simp [mergeK]
  | p :: r, kvs, h => by
    have e : putK kvs p.1 p.2 = kvs ++ [p] := putK_new (by
      rw [List.map_append, List.map_cons] at h
      have := (List.nodup_append.mp h).2.2
      intro hm
      exact this _ hm _ List.mem_cons_self rfl)
    show mergeK (putK kvs p.1 p.2) r = _
    rw [e, mergeK_new r (kvs ++ [p]) (by simpa using h)]
    simp
theorem KvR.zip {K : PySem.W.Frag} {G : Gh} {H : Hp} : ∀ {ks : List Key} {ds : List D} {vs : List V}, Reps K G H ds vs → ks.length = vs.length → KvR K G H (ks.zip ds) (ks.zip vs)
  | [], ds, vs, _, _ => by simp [KvR]
  | k :: ks, [], vs, h, l => by simp only [Reps] at h; subst h; simp at l
  | k :: ks, d :: ds, vs, h, l => by
    simp only [Reps] at h
    obtain ⟨v, r, rfl, h1, h2⟩ := h
    exact ⟨v, _, rfl, h1, KvR.zip h2 (by simpa using l)⟩
theorem dct_end {Z : Ent} {G G1 : Gh} {μ μ1 : Sto} {ρ : Env} {hv : List (D × V)} {σ : St} {H H1 : Hp} {p : Addr} {kvs : List (Key × D)} {vs : List (Key × V)} (rl : Rl X.K Ca Z G μ ρ hv σ H) (hp : H p = none) (e : Ext G μ (upd H p (.dK [])) G1 μ1 H1) (ok : Okk X.K Ca G1 μ1 H1) (h1 : H1 p = some (.dK []))
    (r : KvR X.K G1 H1 kvs vs) : Ext G μ H ⟨G1.φ ++ [p], G1.Fz⟩ (μ1 ++ [.dct kvs]) (upd H1 p (.dK vs)) ∧ Okk X.K Ca ⟨G1.φ ++ [p], G1.Fz⟩ (μ1 ++ [.dct kvs]) (upd H1 p (.dK vs)) := by
  have e0 : Ext G μ H G μ (upd H p (.dK [])) := Ext.fresh rl.ok hp
  have ok0 : Okk X.K Ca G μ (upd H p (.dK [])) := rl.ok.fresh hp
  have ex := e0.trans e
  have nf : ¬ G1.Fz p := fun f => by
    rcases e.fzn p f with f | f | ⟨n, _, f, _⟩
    · exact rl.ok.fex p f hp
    · rw [upd_same] at f; cases f
    · exact rl.ok.ex n p f hp
  have np : ∀ n : Nat, G1.φ[n]? ≠ some p := fun n f => by
    rcases e.new n p f with f | f
    · exact rl.ok.ex n p f hp
    · rw [upd_same] at f; cases f
  obtain ⟨q1, q2, q3⟩ := updFree (o' := .dK vs) h1 nf np (fun xs => ⟨(by intro z; cases z), fun ob => (by intro z; cases z)⟩) ex ok hp
  refine newCell q1 q2 hp (by rw [upd_same]; intro z; cases z) nf np ?_ (by intro z; cases z)
  have st : Stay X.K G1 (upd H1 p (.dK vs)) ⟨G1.φ ++ [p], G1.Fz⟩ (upd H1 p (.dK vs)) := ⟨fun n a h => by
    show (G1.φ ++ [p])[n]? = some a
    obtain ⟨hl, _⟩ := List.getElem?_eq_some_iff.mp h
    rw [List.getElem?_append_left hl]; exact h, fun _ h => h, fun _ _ h _ => h, fun _ _ h _ => h⟩
  exact ⟨vs, upd_same, st.kv _ _ (q3.kv _ _ r)⟩
theorem pe_dctt {keys : List (Option Expr)} {vals : List Expr} {ks : List Key} {Es : List E} (h : PrOk X pos keys vals (tPr X.K Ca W C g ks Es)) (hall : keys.all (·.isSome) = true) (hl : keys.length = vals.length) (h0 : keys ≠ []) (h15 : keys.length ≤ 15) (hE : ks.length = Es.length) :
    PE X (.Dict keys vals pos) (tE X.K Ca W C g (.dct ks Es)) := by
  obtain ⟨trs, h1, h2⟩ := h
  refine (pe_disp h1 hall hl h0 h15).weak fun σ H Q ⟨Z, G, μ, ρ, hv, rl, h⟩ => ?_
  intro p hp
  simp only [evalE] at h
  refine h2 _ _ _ ?_
  have e0 : Ext G μ H G μ (upd H p (.dK [])) := Ext.fresh rl.ok hp
  have ok0 : Okk X.K Ca G μ (upd H p (.dK [])) := rl.ok.fresh hp
  -- the new dict is seen by nobody
  unfold At M.bind at h
  refine ⟨Z, G, μ, ρ, hv, rl.step e0 ok0, hE, ?_⟩
  unfold At
  cases q : evalEs C g Es ρ μ with
  | none => rw [q] at h; exact h
  | some r =>
    rw [q] at h
    cases r with
    | exc x μ1 => exact fun G1 H1 cls d e ok ex => h G1 H1 cls d (e0.trans e) ok ex
    | ok ds μ1 =>
      intro G1 ps H1 e1 ok1 r1
      obtain ⟨vs, rfl, rs, l⟩ := r1
      have hp1 : H1 p = some (.dK []) := e1.keep p _ upd_same fun ⟨n, _, f, _⟩ => rl.ok.ex n p f hp
      by_cases hc : ds.length = ks.length ∧ ks.length ≤ 15 ∧ ks.Nodup
      · have h : ∀ G2 v H2, Ext G μ H G2 (μ1 ++ [.dct (ks.zip ds)]) H2 → Okk X.K Ca G2 (μ1 ++ [.dct (ks.zip ds)]) H2 → RvR X.K ρ σ G2 H H2 (.v (.ref μ1.length)) v → Q v H2 := by
          simp only [if_pos hc] at h
          exact h
        obtain ⟨q1, q2⟩ := dct_end rl hp e1 ok1 hp1 (KvR.zip rs l)
        have em : mergeK [] (ks.zip vs) = ks.zip vs := mergeK_new _ _ (by
          rw [List.nil_append, List.map_fst_zip (by omega)]; exact hc.2.2)
        refine ⟨hp1, ks.zip vs, rfl, by rw [List.length_zip, l, Nat.min_self, ← l]; exact hc.2.1, ?_⟩
        rw [em]
        refine h _ _ _ q1 q2 ?_
        show Rep X.K ⟨G1.φ ++ [p], G1.Fz⟩ (upd H1 p (.dK (ks.zip vs))) (.ref μ1.length) (.ref p)
        simp only [Rep]
        refine ⟨p, rfl, ?_⟩
        show (G1.φ ++ [p])[μ1.length]? = some p
        rw [ok1.len, List.getElem?_append_right (Nat.le_refl _)]
        simp
      · simp only [if_neg hc] at h
        exact h.elim
theorem pe_dct0 : PE X (.Dict [] [] pos) (tE X.K Ca W C g (.dct [] [])) := pe_dnewK.weak fun σ H Q ⟨Z, G, μ, ρ, hv, rl, h⟩ => by
  intro p hp
  simp only [evalE, evalEs] at h
  have h : ∀ G2 v H2, Ext G μ H G2 (μ ++ [.dct []]) H2 → Okk X.K Ca G2 (μ ++ [.dct []]) H2 → RvR X.K ρ σ G2 H H2 (.v (.ref μ.length)) v → Q v H2 := h
  have e0 : Ext G μ (upd H p (.dK [])) G μ (upd H p (.dK [])) := Ext.refl _ _ _
  obtain ⟨q1, q2⟩ := dct_end (kvs := []) (vs := []) rl hp e0 (rl.ok.fresh hp) upd_same rfl
  have ee : upd (upd H p (.dK [])) p (.dK []) = upd H p (.dK []) := by
    funext b
    by_cases z : b = p
    · rw [z, upd_same, upd_same]
    · rw [upd_ne z]
  rw [ee] at q1 q2
  refine h _ _ _ q1 q2 ?_
  show Rep X.K ⟨G.φ ++ [p], G.Fz⟩ (upd H p (.dK [])) (.ref μ.length) (.ref p)
  simp only [Rep]
  refine ⟨p, rfl, ?_⟩
  show (G.φ ++ [p])[μ.length]? = some p
  rw [rl.ok.len, List.getElem?_append_right (Nat.le_refl _)]
  simp
end
end J
/-! what the text must be like: the small facts. -/
namespace J
open PySem L2 PySem.Spec PyProof.Rows
def notStar : Expr → Bool
  | .Starred _ _ => false | _ => true
def notSlice : Expr → Bool
  | .Slice _ _ _ _ => false | _ => true
def notSet : Expr → Bool
  | .Set _ _ _ => false | _ => true
def notComp : Expr → Bool
  | .ListComp _ _ _ _ => false | .SetComp _ _ _ _ => false | .DictComp _ _ _ _ _ => false | _ => true
def notName : Expr → Bool
  | .Name _ _ => false | _ => true
def notTup : Expr → Bool
  | .Tuple _ _ _ => false | .List _ _ => false | _ => true
/-- a value whose truth is asked after it has come -/
def truthy : Expr → Bool
  | .UnaryOp .Not _ _ => false | .BoolOp _ _ _ => false | .IfExp _ _ _ _ => false | .Compare _ _ _ _ => false | _ => true
def recv : Expr → Bool
  | .Call (.Name _ _) [] [] _ => false | _ => true
theorem star_cons {a : Expr} {es : List Expr} {env : PySem.Env} (h : notStar a = true) : starEach (a :: es) env = (false, eval a env) :: starEach es env := by
  cases a <;> first | rfl | cases h
theorem star_map {es : List Expr} {env : PySem.Env} (h : es.all notStar = true) : starEach es env = es.map fun e => (false, eval e env) := by
  induction es with
  | nil => rfl
  | cons a r ih =>
    rw [List.all_cons, Bool.and_eq_true] at h
    rw [star_cons h.1, ih h.2]; rfl
theorem back_any {es : List Expr} {env : PySem.Env} {pos : Pos} (h : es.all notStar = true) : (backTo pos (starEach es env)).any (·.1) = false := by
  rw [star_map h]
  unfold backTo
  simp
theorem back_all {es : List Expr} {env : PySem.Env} {pos : Pos} (h : es.all notStar = true) : (backTo pos (starEach es env)).all (fun x => !x.1) = true := by
  rw [star_map h]
  unfold backTo
  simp
theorem back_eq {es : List Expr} {env : PySem.Env} {pos : Pos} (h : es.all notStar = true) : backTo pos (starEach es env) = es.map fun e => (false, eval e env) := by
  rw [star_map h]
  unfold backTo
  simp
theorem few_of {es : List Expr} {env : PySem.Env} {pos : Pos} (h : es.all notStar = true) (hl : es.length < 30) :
    ((backTo pos (starEach es env)).all (fun x => !x.1) && (backToKw pos (keywordEach [] env)).all (fun x => x.1.isSome) && decide (es.length + ([] : List Keyword).length + (if ([] : List Keyword).isEmpty then 0 else 1) < 30)) = true := by
  rw [back_all h]
  simp [keywordEach, backToKw, hl]
theorem asg_cons {a : Expr} {es : List Expr} {env : PySem.Env} (h : notStar a = true) : assignEach (a :: es) env = (false, assign a env) :: assignEach es env := by
  cases a <;> first | rfl | cases h
theorem asg_map {es : List Expr} {env : PySem.Env} (h : es.all notStar = true) : assignEach es env = es.map fun e => (false, assign e env) := by
  induction es with
  | nil => rfl
  | cons a r ih =>
    rw [List.all_cons, Bool.and_eq_true] at h
    rw [asg_cons h.1, ih h.2]; rfl
theorem attr_of {o : Expr} {m : Str} {env : PySem.Env} (h : recv o = true) : attributeBase o m env (eval o env) = eval o env := by
  unfold attributeBase
  split
  · cases h
  · rfl
theorem fold_of {e : Expr} {env : PySem.Env} (h : notSet e = true) : ∀ x, foldedSetIterable e env x = pure x := fun x => by
  cases e <;> first | rfl | cases h
theorem marks_of {op : CmpOp} {e : Expr} (h : notSet e = true) : behindInMarks op e = false := by
  cases e <;> first | rfl | cases h
theorem plain_of {e : Expr} (h : notSlice e = true) : PlainIx e := fun o i => by
  cases e <;> first | rfl | cases h
theorem tru_of' {e : Expr} {env : PySem.Env} (h : truthy e = true) : ∀ whole, isTrue e env whole = (do let v ← whole; standAt e.pos; holding [v] (PySem.truthy v)) := fun whole => by
  unfold truthy at h
  split at h <;> first | cases h | skip
  rename_i h1 h2 h3 h4
  cases e with
  | UnaryOp op x p => cases op <;> first | rfl | exact absurd rfl (h1 _ _)
  | BoolOp op x p => exact absurd rfl (h2 _ _ _)
  | IfExp a b c p => exact absurd rfl (h3 _ _ _ _)
  | Compare a b c p => exact absurd rfl (h4 _ _ _ _)
  | _ => rfl
theorem sw_notComp {e : Expr} {t : Option Expr} {l : Nat} {env : PySem.Env} (h : notComp e = true) : swapsWith e t l env = pure false := by
  cases e <;> first | rfl | cases h
theorem sw_notName {e t : Expr} {l : Nat} {env : PySem.Env} (h : notName t = true) : swapsWith e (some t) l env = pure false := by
  cases e <;> first | rfl | (cases t <;> first | rfl | cases h)
theorem swS_notTup {t e : Expr} {env : PySem.Env} (h : notTup t = true) : swappedStores [t] e env = pure none := by
  cases t <;> first | rfl | cases h
theorem swS_noTup {t e : Expr} {env : PySem.Env} (h : notTup e = true) : swappedStores [t] e env = pure none := by
  cases t <;> first | rfl | (cases e <;> first | rfl | cases h)
/-- which names a display's stores swap -/
def blkK (sc : Scope) : ScopeKind := if sc.kind.isAnnotationScope then .function else sc.kind
def swNames (sc : Scope) (ts : List Expr) : List Str := ts.filterMap fun
  | .Name id pos => if sc.names.lookup id == some .local && pos.line == (ts.head?.map (·.pos.line)).getD 0 then some id else none
  | _ => none
/-- none: not told -/
def swB (sc : Scope) (ts vs : List Expr) : Option (Option (List Str)) :=
  if !(ts.length == 2 || ts.length == 3) || vs.length != ts.length || blkK sc != .function then some none
  else if vs.any fun | .Starred .. => true | _ => false then some none
  else if (swNames sc ts).length != ts.length || (swNames sc ts).eraseDups.length != (swNames sc ts).length then some none
  else if vs.all (foldedForSure 8) then some none
  else if vs.all (constantsAlone 8) then none
  else some (some (swNames sc ts))
theorem swB_ok {sc : Scope} {ts vs : List Expr} {k k2 : Nat} {p p2 : Pos} {env : PySem.Env} {r : Option (List Str)} (he : env.scope = sc) (h : swB sc ts vs = some r) : swappedStores [.Tuple ts k p] (.Tuple vs k2 p2) env = pure r := by
  subst he
  unfold swB at h
  unfold swappedStores
  simp only [pure_bind]
  have e1 : env.blockKind = blkK env.scope := rfl
  have e2 : (ts.filterMap fun
    | .Name id pos => if env.kindOf id == some .local && pos.line == (ts.head?.map (·.pos.line)).getD 0 then some id else none
    | _ => none) = swNames env.scope ts := rfl
  rw [e1]
  split at h
  · rename_i c; cases h; rw [if_pos c]
  · rename_i c
    rw [if_neg c]
    split at h
    · rename_i c2; cases h; exact if_pos c2
    · rename_i c2
      refine (if_neg c2).trans ?_
      split at h
      · rename_i c3; cases h; exact if_pos c3
      · rename_i c3
        refine (if_neg c3).trans ?_
        split at h
        · rename_i c4; cases h; exact if_pos c4
        · rename_i c4
          refine (if_neg c4).trans ?_
          split at h
          · cases h
          · rename_i c5
            cases h
            exact if_neg c5
end J
/-! the text against the small language, by a Bool. -/
namespace J
open PySem L2 PySem.Spec PyProof.Rows
structure Ct where
  N : List Str
  sc : Scope
  fn : Str → Bool
  fns : List (Str × Nat)
  csts : List (Str × Nat)
  blts : List Str
inductive Jd where
  | e (x : Expr) (A : E)
  | t (x : Expr) (A : E)
  | w (x : Expr) (A : E)
  | as (xs : List Expr) (As : List E)
  | bs (xs : List Expr) (As : List E)
  | o (x : Option Expr) (A : Option E)
  | i (tg it : Expr) (A : E)
  | g (x : Expr) (t : T)
  | gs (xs : List Expr) (ts : List T)
  | c (xs : List Expr) (A : Option E)
  | pr (ks : List (Option Expr)) (xs : List Expr) (Ks : List Key) (As : List E)
  | s (x : Stmt) (s : S)
  | ss (xs : List Stmt) (s : List S)
def visB (sc : Scope) (x : Str) : Bool := decide (sc.names.lookup x = some .local) || decide (sc.names.lookup x = some .cell) || decide (sc.names.lookup x = some .free)
def locB (c : Ct) (x : Str) : Bool := (decide (c.sc.names.lookup x = some .local) || (decide (c.sc.names.lookup x = some .cell) && c.fn x))
def glB (sc : Scope) (x : Str) : Bool := decide (sc.names.lookup x = some .globalImplicit)
def plainN (x : Str) : Bool := !(x == ("__debug__" : Str)) && !(x == ("__classdict__" : Str))
def bltB (c : Ct) (x : Str) : Bool := glB c.sc x && decide (x ∈ c.blts)
def relS (scope sc : Scope) : Scope := { scope with names := scope.names.map fun (n, k) => if (k == .free && sc.kind == .function && sc.names.lookup n == some .cell) then (n, .cell) else (n, k) }
def Ct.blk (c : Ct) (scope : Scope) : Ct := { c with sc := relS scope c.sc, fn := fun x => scope.names.lookup x == some .cell }
def Blt.nm : Blt → Str
  | .len => "len" | .max2 => "max" | .min2 => "min" | .maxL => "max" | .minL => "min" | .sum => "sum" | .abs => "abs" | .int => "int" | .str => "str" | .list => "list" | .tuple => "tuple" | .all => "all" | .any => "any"
  | .isBool => "bool" | .isInt => "int" | .isStr => "str" | .isTuple => "tuple" | .isList => "list"
def Mth.nm : Mth → Str
  | .join => "join" | .split => "split" | .index => "index" | .sindex => "index" | .get => "get" | .pop => "pop" | .popAt => "pop"
section
variable (r : Ct → Jd → Bool) (c : Ct)
def litB : Expr → Lit → Bool
  | .Constant .none _ _, .non => true
  | .Constant (.bool b) _ _, .bl b' => b == b'
  | .Constant (.int i) _ _, .int j => decide (i = j)
  | .Constant (.str x) _ _, .str y => decide (x = y)
  | _, _ => false
def ownB (own : List Nat) : List (Str × Nat) := own.map fun i => ((c.N[i]?).getD ⟨#[]⟩, i)
def compB (x : Expr) (own : List Nat) (t : T) (it : E) (co : Option E) (e : E) : Bool := match x with
  | .ListComp elt [⟨tg, iter, ifs, 0⟩] scope _ => blkC c.N c.sc scope (ownB c own) && r c (.i tg iter it) && r (c.blk scope) (.g tg t) && r (c.blk scope) (.c ifs co) && r (c.blk scope) (.e elt e) && notSet iter && (t.sl.all fun i => decide (i ∈ own))
  | _ => false
/-- f(x, ..) with a plain name, no words -/
def callB (x : Expr) : Option (Str × List Expr) := match x with
  | .Call (.Name f _) es [] _ => if es.all notStar then some (f, es) else none
  | _ => none
def bltOk (x : Expr) (b : Blt) (Es : List E) : Bool := match callB x with
  | some (f, es) => if (isD b).isSome then (match es, Es with
      | [a, .Name y _], [A] => bltB c f && decide (f = ("isinstance" : Str)) && bltB c y && decide (y = b.nm) && r c (.e a A)
      | _, _ => false)
    else bltB c f && decide (f = b.nm) && !es.isEmpty && r c (.bs es Es)
  | none => false
def methOk (x : Expr) (m : Mth) (O : E) (Es : List E) : Bool := match x with
  | .Call (.Attribute o nm apos) es [] pos => decide (nm = m.nm) && recv o && (apos.endLine == pos.line) && r c (.e o O) && es.all notStar && (match m, es, Es with
    | .join, [a], [A] => r c (.e a A)
    | .split, [a], [A] => r c (.e a A)
    | .sindex, [a], [A] => r c (.e a A)
    | .pop, [], [] => true
    | .popAt, [a], [A] => r c (.bs [a] [A])
    | .get, [a, b], [A, B] => r c (.e a A) && r c (.e b B)
    | _, _, _ => false)
  | _ => false
def revB (x : Expr) (A : E) : Bool := match x with
  | .Subscript a (.Slice none none (some (.UnaryOp .USub (.Constant (.int i) _ _) _)) _) _ => decide (i = 1) && r c (.e a A)
  | .Call (.Name f _) [.Call (.Name f2 _) [a] [] _] [] _ => bltB c f && decide (f = ("list" : Str)) && bltB c f2 && decide (f2 = ("reversed" : Str)) && notStar a && r c (.e a A)
  | _ => false
def chkE (x : Expr) (A : E) : Bool := match A with
  | .lit l => litB x l
  | .var i => (match x with
    | .Name n _ => decide (c.N[i]? = some n) && visB c.sc n && plainN n
    | _ => false)
  | .glob k => (match x with
    | .Name n _ => glB c.sc n && plainN n && decide (c.csts.lookup n = some k)
    | _ => false)
  | .bin o A B => (match x with
    | .BinOp a op b _ => decide (op = o.op) && r c (.e a A) && r c (.e b B)
    | _ => false)
  | .neg A => (match x with
    | .UnaryOp .USub a _ => r c (.e a A)
    | _ => false)
  | .not A => (match x with
    | .UnaryOp .Not a _ => r c (.e a A)
    | _ => false)
  | .cmp o A B => (match x with
    | .Compare a [op] [b] _ => decide (op = o.op) && notSet b && r c (.e a A) && r c (.e b B)
    | _ => false)
  | .chain o p A B B2 => (match x with
    | .Compare a [op, op2] [b, b2] _ => decide (op = o.op) && decide (op2 = p.op) && notSet b2 && r c (.e a A) && r c (.e b B) && r c (.e b2 B2)
    | _ => false)
  | .and A B => (match x with
    | .BoolOp .And [a, b] _ => r c (.e a A) && r c (.e b B)
    | .BoolOp .And (a :: b :: rest) pos => r c (.e a A) && r c (.e (.BoolOp .And (b :: rest) pos) B)
    | _ => false)
  | .or A B => (match x with
    | .BoolOp .Or [a, b] _ => r c (.e a A) && r c (.e b B)
    | .BoolOp .Or (a :: b :: rest) pos => r c (.e a A) && r c (.e (.BoolOp .Or (b :: rest) pos) B)
    | _ => false)
  | .ite C A B => (match x with
    | .IfExp t a b _ => r c (.t t C) && r c (.e a A) && r c (.e b B)
    | _ => false)
  | .tup Es => (match x with
    | .Tuple es _ _ => r c (.as es Es)
    | _ => false)
  | .lst Es => (match x with
    | .List es _ => r c (.as es Es)
    | _ => false)
  | .cell A => r c (.e x A)
  | .dct ks Es => (match x with
    | .Dict [] [] _ => ks.isEmpty && Es.isEmpty
    | .Dict keys vals _ => r c (.pr keys vals ks Es) && keys.all (·.isSome) && decide (keys.length = vals.length) && !keys.isEmpty && decide (keys.length ≤ 15) && decide (ks.length = Es.length)
    | _ => false)
  | .idx A B => (match x with
    | .Subscript a b _ => notSlice b && r c (.e a A) && r c (.e b B)
    | _ => false)
  | .slc A Lo Hi => (match x with
    | .Subscript a (.Slice lo hi none _) _ => r c (.e a A) && r c (.o lo Lo) && r c (.o hi Hi)
    | _ => false)
  | .rev A => revB r c x A
  | .comp own t it co e => compB r c x own t it co e
  | .call f Es => (match callB x with
    | some (n, es) => glB c.sc n && plainN n && decide (c.fns.lookup n = some f) && r c (.as es Es) && (es.isEmpty == Es.isEmpty)
    | none => false)
  | .blt b Es => bltOk r c x b Es
  | .meth m O Es => methOk r c x m O Es
  | .irng _ => false
  | .irng2 _ _ => false
  | .ienum _ => false
  | .izip _ _ => false
  | .izip3 _ _ _ => false
  | .irev _ => false
def chkT (x : Expr) (A : E) : Bool := match x with
  | .Compare a [op] [b] _ => (match A with
    | .cmp o A B => decide (op = o.op) && notSet b && r c (.e a A) && r c (.e b B)
    | _ => false)
  | .Compare a [op, op2] [b, b2] _ => (match A with
    | .chain o p A B B2 => decide (op = o.op) && decide (op2 = p.op) && notSet b2 && r c (.e a A) && r c (.e b B) && r c (.e b2 B2)
    | _ => false)
  | .UnaryOp .Not a _ => (match A with
    | .not A => r c (.t a A)
    | _ => false)
  | .BoolOp op xs pos => r c (.w (.BoolOp op xs pos) A)
  | x => truthy x && r c (.e x A)
def chkW (x : Expr) (A : E) : Bool := match x with
  | .BoolOp _ [a] _ => r c (.t a A)
  | .BoolOp .And (a :: b :: rest) pos => (match A with
    | .and A B => r c (.t a A) && r c (.w (.BoolOp .And (b :: rest) pos) B)
    | _ => false)
  | .BoolOp .Or (a :: b :: rest) pos => (match A with
    | .or A B => r c (.t a A) && r c (.w (.BoolOp .Or (b :: rest) pos) B)
    | _ => false)
  | _ => false
def chkAs (xs : List Expr) (As : List E) : Bool := match xs, As with
  | [], [] => true
  | x :: xs, A :: As => notStar x && r c (.e x A) && r c (.as xs As)
  | _, _ => false
def chkBs (xs : List Expr) (As : List E) : Bool := match xs, As with
  | [], [] => true
  | x :: xs, A :: As => notStar x && r c (.e x A) && r c (.bs xs As)
  | _, _ => false
def chkO (x : Option Expr) (A : Option E) : Bool := match x, A with
  | none, none => true
  | some x, some A => r c (.e x A)
  | _, _ => false
def isTupX : Expr → Bool
  | .Tuple _ _ _ => true | _ => false
def chkI (tg x : Expr) (A : E) : Bool := match A with
  | .irng A => (match x with
    | .Call (.Name f _) [a] [] _ => bltB c f && decide (f = ("range" : Str)) && notStar a && r c (.bs [a] [A])
    | _ => false)
  | .ienum A => (match x with
    | .Call (.Name f _) [a] [] _ => isTupX tg && bltB c f && decide (f = ("enumerate" : Str)) && notStar a && r c (.as [a] [A])
    | _ => false)
  | .izip A B => (match x with
    | .Call (.Name f _) [a, b] [] _ => isTupX tg && bltB c f && decide (f = ("zip" : Str)) && notStar a && notStar b && r c (.as [a, b] [A, B])
    | _ => false)
  | .irev A => (match x with
    | .Call (.Name f _) [a] [] _ => bltB c f && decide (f = ("reversed" : Str)) && notStar a && r c (.e a A)
    | _ => false)
  | A => r c (.e x A)
def chkG (x : Expr) (t : T) : Bool := match t with
  | .nm i => (match x with
    | .Name n _ => decide (c.N[i]? = some n) && locB c n
    | _ => false)
  | .tp ts => (match x with
    | .Tuple es _ _ => es.all notStar && decide (es.length = ts.length) && r c (.gs es ts)
    | _ => false)
def chkGs (xs : List Expr) (ts : List T) : Bool := match xs, ts with
  | [], [] => true
  | x :: xs, t :: ts => notStar x && r c (.g x t) && r c (.gs xs ts)
  | _, _ => false
def chkC (xs : List Expr) (A : Option E) : Bool := match xs, A with
  | [], none => true
  | [x], some A => r c (.t x A)
  | _, _ => false
def keyB : Key → Option Expr → Bool
  | .inl i, some (.Constant (.int j) _ _) => decide (i = j)
  | .inr x, some (.Constant (.str y) _ _) => decide (x = y)
  | _, _ => false
def chkPr (ks : List (Option Expr)) (xs : List Expr) (Ks : List Key) (As : List E) : Bool := match ks, xs, Ks, As with
  | [], [], [], [] => true
  | k :: ks, x :: xs, K :: Ks, A :: As => keyB K k && r c (.e x A) && r c (.pr ks xs Ks As)
  | _, _, _, _ => false
/-! statements -/
def swC (sc : Scope) (x : Str) (l : Nat) (e : Expr) : Bool := match e with
  | .ListComp _ _ s pos => blkK sc == .function && sc.names.lookup x == some .local && l == pos.line && !(s.names.any fun (n, k) => n == x && (k == .local || k == .cell))
  | _ => false
/-- a value that goes to a name -/
def nameB (x : Str) (l : Nat) (e : Expr) (A : E) : Bool :=
  if swC c.sc x l e then (match A with
    | .comp own t it co e2 => compB r c e own t it co e2
    | .cell (.comp own t it co e2) => compB r c e own t it co e2
    | _ => false)
  else (notComp e || (match e with | .ListComp _ _ _ _ => true | _ => false)) && r c (.e e A)
def tupNames (sc : Scope) (ts : List Expr) : List Str := swNames sc ts
def parB (ts vs : List Expr) (is : List Nat) (As : List E) : Bool :=
  decide (swB c.sc ts vs = some (some (is.map fun i => (c.N[i]?).getD ⟨#[]⟩))) && r c (.as vs As) && decide (is.Nodup)
def chkS (x : Stmt) (s : S) : Bool := match s with
  | .asg (.nm i) A => (match x with
    | .Assign [.Name n p] e _ => decide (c.N[i]? = some n) && locB c n && nameB r c n p.line e A
    | _ => false)
  | .asg (.tp ts) A => (match x with
    | .Assign [.Tuple es k p] e _ => r c (.e e A) && r c (.g (.Tuple es k p) (.tp ts)) && (notTup e || (match e with
        | .Tuple vs _ _ => decide (swB c.sc es vs = some none)
        | _ => false))
    | _ => false)
  | .own i A => (match x with
    | .Assign [.Name n p] e _ => decide (c.N[i]? = some n) && locB c n && nameB r c n p.line e A
    | _ => false)
  | .par2 i j A B => (match x with
    | .Assign [.Tuple [.Name n p, .Name n2 p2] k q] (.Tuple [a, b] k2 q2) _ => decide (c.N[i]? = some n) && decide (c.N[j]? = some n2) && decide (c.sc.names.lookup n = some .local) && decide (c.sc.names.lookup n2 = some .local) &&
        decide (swB c.sc [.Name n p, .Name n2 p2] [a, b] = some (some [n, n2])) && r c (.as [a, b] [A, B]) && decide (i ≠ j)
    | _ => false)
  | .par3 i j l A B C => (match x with
    | .Assign [.Tuple [.Name n p, .Name n2 p2, .Name n3 p3] k q] (.Tuple [a, b, d] k2 q2) _ => decide (c.N[i]? = some n) && decide (c.N[j]? = some n2) && decide (c.N[l]? = some n3) && decide (c.sc.names.lookup n = some .local) && decide (c.sc.names.lookup n2 = some .local) &&
        decide (c.sc.names.lookup n3 = some .local) && decide (swB c.sc [.Name n p, .Name n2 p2, .Name n3 p3] [a, b, d] = some (some [n, n2, n3])) && r c (.as [a, b, d] [A, B, C]) && decide (i ≠ j) && decide (i ≠ l) && decide (j ≠ l)
    | _ => false)
  | .share _ => false
  | .put O I' E' => (match x with
    | .Assign [.Subscript o i _] e _ => notSlice i && r c (.e o O) && r c (.e i I') && r c (.e e E')
    | _ => false)
  | .app O E' => (match x with
    | .Expr (.Call (.Attribute o m apos) [a] [] pos) _ => decide (m = ("append" : Str)) && recv o && (apos.endLine == pos.line) && notStar a && r c (.e o O) && r c (.as [a] [E'])
    | _ => false)
  | .ext O E' => (match x with
    | .Expr (.Call (.Attribute o m apos) [a] [] pos) _ => decide (m = ("extend" : Str)) && recv o && (apos.endLine == pos.line) && notStar a && r c (.e o O) && r c (.as [a] [E'])
    | _ => false)
  | .ret A => (match x with
    | .Return (some e) _ => r c (.e e A)
    | _ => false)
  | .ifs A As Bs => (match x with
    | .If t a b _ => r c (.t t A) && r c (.ss a As) && r c (.ss b Bs)
    | _ => false)
  | .fors t it Bs => (match x with
    | .For tg iter b [] _ => r c (.i tg iter it) && r c (.g tg t) && r c (.ss b Bs) && notSet iter
    | _ => false)
  | .whl A Bs => (match x with
    | .While t b [] _ => r c (.t t A) && r c (.ss b Bs)
    | _ => false)
  | .expr A => (match x with
    | .Expr e _ => notComp e && r c (.e e A)
    | _ => false)
  | .pass => (match x with
    | .Pass _ => true
    | _ => false)
  | .cont => (match x with
    | .Continue _ => true
    | _ => false)
def chkSs (xs : List Stmt) (s : List S) : Bool := match s with
  | [] => xs.isEmpty
  | .share _ :: ss => r c (.ss xs ss)
  | s :: ss => (match xs with
    | x :: xs => r c (.s x s) && r c (.ss xs ss)
    | [] => false)
def chkJ : Jd → Bool
  | .e x A => chkE r c x A
  | .t x A => chkT r c x A
  | .w x A => chkW r c x A
  | .as xs As => chkAs r c xs As
  | .bs xs As => chkBs r c xs As
  | .o x A => chkO r c x A
  | .i tg x A => chkI r c tg x A
  | .g x t => chkG r c x t
  | .gs xs ts => chkGs r c xs ts
  | .c xs A => chkC r c xs A
  | .pr ks xs Ks As => chkPr r c ks xs Ks As
  | .s x s => chkS r c x s
  | .ss xs s => chkSs r c xs s
end
def chk : Nat → Ct → Jd → Bool
  | 0 => fun _ _ => false
  | n + 1 => fun c j => chkJ (chk n) c j
end J
/-! the checker is sound (expressions). -/
namespace J
open PySem L2 PySem.Spec PyProof.Rows
structure CtOk (k : Nat) (Ca : Str → Addr) (C : Calls) (g : List D) (X : Cx) (W : WX) (c : Ct) : Prop where
  N : X.N = c.N
  nd : c.N.Nodup
  sc : X.env.scope = c.sc
  fn : ∀ x, c.fn x = true → X.fn x = true
  calm : X.calm = true
  room : Room k X.A
  tk : Takes X W
  fns : ∀ x f, c.fns.lookup x = some f → ∃ fa fd ps, FnOk X.prog X.w X.K X.mg X.base (L2.CX X.prog X.w) k fa fd ps (spI X.K Ca (C f)) ∧ X.mg x = some (.ref fa) ∧ PySem.W.keepIn X.K (.ref fa) = true ∧ Binds X.K fd ps []
  csts : ∀ x n, c.csts.lookup x = some n → ∃ u v d, X.mg x = some u ∧ RelV v u ∧ g[n]? = some d ∧ ∀ G H, Rep X.K G H d v
  blts : ∀ x ∈ c.blts, X.mg x = none
def Snd (Ca : Str → Addr) (C : Calls) (g : List D) (X : Cx) (W : WX) : Jd → Prop
  | .e x A => PE X x (tE X.K Ca W C g A)
  | .t x A => PT X x (tT X.K Ca W C g A)
  | .w x A => PW X x (tT X.K Ca W C g A)
  | .as xs As => PA X xs (tAs X.K Ca W C g As)
  | .bs xs As => PA X xs (tBs X.K Ca W C g As)
  | .o x A => PO X x (tO X.K Ca W C g A)
  | .i tg it A => PI X tg it (tI X.K Ca W C g A)
  | .g x t => PG X x (gT X.K Ca t)
  | .gs xs ts => PGs X xs (gTs X.K Ca ts)
  | .c xs A => PTs X xs (tC' X.K Ca W C g A)
  | .pr ks xs Ks As => ∀ pos, PrOk X pos ks xs (tPr X.K Ca W C g Ks As)
  | .s x s => PassesOwn (model X.prog X.w) X.A X.env X.xe → PS X x (tS X.K Ca W C g s)
  | .ss xs ss => PassesOwn (model X.prog X.w) X.A X.env X.xe → PSs X xs (tSs X.K Ca W C g ss)
section
variable {k : Nat} {Ca : Str → Addr} {C : Calls} {g : List D} {r : Ct → Jd → Bool} {c : Ct} {X : Cx} {W : WX}
theorem CtOk.blk (o : CtOk k Ca C g X W c) (s : Shared) (H : Hp) (scope : Scope) (D : Addr) (cl : List (Str × Addr)) (fp : List Addr) : CtOk k Ca C g (X.blk s H scope (compEnvC scope cl D X.env) fp) W0 (c.blk scope) where
  N := o.N
  nd := o.nd
  sc := by
    show relabel scope X.env = relS scope c.sc
    rw [← o.sc]; rfl
  fn := fun x h => h
  calm := o.calm
  room := o.room
  tk := takes0
  fns := o.fns
  csts := o.csts
  blts := o.blts
theorem vis_of {sc : Scope} {x : Str} (h : visB sc x = true) : Vis sc x := by
  unfold visB at h
  simp only [Bool.or_eq_true, decide_eq_true_eq] at h
  rcases h with (h | h) | h
  · exact .inl h
  · exact .inr (.inl h)
  · exact .inr (.inr h)
theorem plainN_of {x : Str} (h : plainN x = true) : (x == ("__debug__" : Str)) = false ∧ (x == ("__classdict__" : Str)) = false := by
  unfold plainN at h
  simpa using h
theorem gl_of (o : CtOk k Ca C g X W c) {x : Str} (h : glB c.sc x = true) : Gl X x := by
  show X.env.scope.names.lookup x = _
  rw [o.sc]
  simpa [glB] using h
theorem blt_of (o : CtOk k Ca C g X W c) {x : Str} (h : bltB c x = true) : Gl X x ∧ X.mg x = none := by
  unfold bltB at h
  rw [Bool.and_eq_true, decide_eq_true_eq] at h
  exact ⟨gl_of o h.1, o.blts x h.2⟩
theorem boot_id {b : Blt} {i : String} (h : b.id? = some i) : bootBuiltins b.nm = some (.builtin i) ∧ b.nm ≠ "__name__" ∧ (b.nm == ("__debug__" : Str)) = false := by
  cases b <;> cases h <;> exact ⟨by decide +kernel, by decide +kernel, by decide +kernel⟩
theorem boot_ty {b : Blt} {i : String} (h : b.ty? = some i) : bootBuiltins b.nm = some (.type i) ∧ b.nm ≠ "__name__" ∧ (b.nm == ("__debug__" : Str)) = false := by
  cases b <;> cases h <;> exact ⟨by decide +kernel, by decide +kernel, by decide +kernel⟩
theorem boot_is {b : Blt} {t : String} {f : D → Bool} (h : isD b = some (t, f)) : bootBuiltins b.nm = some (.type t) ∧ b.nm ≠ "__name__" ∧ (b.nm == ("__debug__" : Str)) = false := by
  cases b <;> cases h <;> exact ⟨by decide +kernel, by decide +kernel, by decide +kernel⟩
theorem one_of (b : Blt) : (∃ i, b.id? = some i) ∨ (∃ i, b.ty? = some i) ∨ (isD b).isSome = true := by
  cases b <;> first | exact .inl ⟨_, rfl⟩ | exact .inr (.inl ⟨_, rfl⟩) | exact .inr (.inr rfl)
section
variable (ih : ∀ c j, r c j = true → ∀ X W, CtOk k Ca C g X W c → Snd Ca C g X W j) (o : CtOk k Ca C g X W c)
include ih o
theorem comp_ok {x : Expr} {own : List Nat} {t : T} {it : E} {co : Option E} {e : E} (h : compB r c x own t it co e = true) : ∃ elt tg iter ifs scope pos, x = .ListComp elt [⟨tg, iter, ifs, 0⟩] scope pos ∧ BlkOk X.N X.env.scope scope (ownB c own) ∧ (ownB c own).map (·.2) = own ∧
    PI X tg iter (tI X.K Ca W C g it) ∧
    (∀ (s : Shared) (H : Hp) (D : Addr) (cl : List (Str × Addr)) (fp : List Addr), PG (X.blk s H scope (compEnvC scope cl D X.env) fp) tg (gT X.K Ca t)) ∧
    (∀ (s : Shared) (H : Hp) (D : Addr) (cl : List (Str × Addr)) (fp : List Addr), PTs (X.blk s H scope (compEnvC scope cl D X.env) fp) ifs (tC' X.K Ca W0 C g co)) ∧
    (∀ (s : Shared) (H : Hp) (D : Addr) (cl : List (Str × Addr)) (fp : List Addr), PE (X.blk s H scope (compEnvC scope cl D X.env) fp) elt (tE X.K Ca W0 C g e)) ∧ notSet iter = true ∧ ∀ i ∈ t.sl, i ∈ (ownB c own).map (·.2) := by
  unfold compB at h
  split at h
  · rename_i elt tg iter ifs scope pos
    simp only [Bool.and_eq_true, List.all_eq_true, decide_eq_true_eq] at h
    obtain ⟨⟨⟨⟨⟨⟨h1, h2⟩, h3⟩, h4⟩, h5⟩, h6⟩, h7⟩ := h
    have e1 : (ownB c own).map (·.2) = own := by
      unfold ownB
      rw [List.map_map]
      exact List.map_id' own
    refine ⟨elt, tg, iter, ifs, scope, pos, rfl, by rw [o.N, o.sc]; exact blkOk_by h1, e1, ih _ _ h2 X W o, fun s H D cl fp => ih _ _ h3 _ _ (o.blk s H scope D cl fp), fun s H D cl fp => ih _ _ h4 _ _ (o.blk s H scope D cl fp), fun s H D cl fp => ih _ _ h5 _ _ (o.blk s H scope D cl fp), h6, by rw [e1]; exact h7⟩
  · cases h
theorem callB_ok {x : Expr} {f : Str} {es : List Expr} (h : callB x = some (f, es)) : ∃ p pos, x = .Call (.Name f p) es [] pos ∧ es.all notStar = true := by
  unfold callB at h
  split at h
  · split at h
    · rename_i hs; cases h; exact ⟨_, _, rfl, hs⟩
    · cases h
  · cases h
theorem bltOk_ok {x : Expr} {b : Blt} {Es : List E} (h : bltOk r c x b Es = true) : PE X x (tE X.K Ca W C g (.blt b Es)) := by
  unfold bltOk at h
  cases e : callB x with
  | none => rw [e] at h; cases h
  | some p =>
    obtain ⟨f, es⟩ := p
    rw [e] at h
    obtain ⟨p, pos, rfl, hs⟩ := callB_ok ih o e
    simp only at h
    by_cases hd : (isD b).isSome = true
    · rw [if_pos hd] at h
      obtain ⟨⟨t, fd⟩, ed⟩ := Option.isSome_iff_exists.mp hd
      split at h
      · rename_i a y p2 A
        simp only [Bool.and_eq_true, decide_eq_true_eq] at h
        obtain ⟨⟨⟨⟨h1, rfl⟩, h2⟩, rfl⟩, h3⟩ := h
        obtain ⟨g1, m1⟩ := blt_of o h1
        obtain ⟨g2, m2⟩ := blt_of o h2
        obtain ⟨b1, b2, b3⟩ := boot_is ed
        simp only [List.all_cons, Bool.and_eq_true, List.all_nil] at hs
        exact pe_isii ed g1 m1 (by decide +kernel) g2 m2 b1 (ih _ _ h3 X W o) (by decide +kernel) (by decide +kernel) b2 b3 (star_cons hs.1) (star_cons hs.2.1) (back_any (by rfl))
      · cases h
    · rw [if_neg hd] at h
      simp only [Bool.and_eq_true, decide_eq_true_eq, Bool.not_eq_true'] at h
      obtain ⟨⟨⟨h1, rfl⟩, h2⟩, h3⟩ := h
      obtain ⟨g1, m1⟩ := blt_of o h1
      cases es with
      | nil => cases h2
      | cons a es =>
        have hs2 : es.all notStar = true := by rw [List.all_cons, Bool.and_eq_true] at hs; exact hs.2
        have hs1 : notStar a = true := by rw [List.all_cons, Bool.and_eq_true] at hs; exact hs.1
        have ha : PA X (a :: es) (tBs X.K Ca W C g Es) := ih _ _ h3 X W o
        rcases one_of b with ⟨i, ei⟩ | ⟨i, ei⟩ | ei
        · obtain ⟨b1, b2, b3⟩ := boot_id ei
          exact pe_bltf o.calm ei g1 m1 b1 ha b2 b3 (star_cons hs1) (back_any hs2)
        · obtain ⟨b1, b2, b3⟩ := boot_ty ei
          exact pe_bltt o.calm ei g1 m1 b1 ha b2 b3 (star_cons hs1) (back_any hs2)
        · exact absurd ei hd
theorem one_star {a : Expr} {env : PySem.Env} (h : [a].all notStar = true) : starEach [a] env = [(false, eval a env)] := by rw [star_map h]; rfl
theorem methOk_ok {x : Expr} {m : Mth} {O : E} {Es : List E} (h : methOk r c x m O Es = true) : PE X x (tE X.K Ca W C g (.meth m O Es)) := by
  unfold methOk at h
  split at h
  · rename_i o' nm apos es pos
    simp only [Bool.and_eq_true, decide_eq_true_eq] at h
    obtain ⟨⟨⟨⟨⟨rfl, h1⟩, h2⟩, h3⟩, h4⟩, h5⟩ := h
    have ho : PE X o' (tE X.K Ca W C g O) := ih _ _ h3 X W o
    split at h5
    · exact pe_joinn ho (ih _ _ h5 X W o) (one_star ih o h4) (attr_of h1) h2
    · exact pe_splitt ho (ih _ _ h5 X W o) (one_star ih o h4) (attr_of h1) h2
    · exact pe_sindexx ho (ih _ _ h5 X W o) (one_star ih o h4) (attr_of h1) h2
    · exact pe_popp ho (attr_of h1) h2
    · exact pe_popAtt ho (ih _ _ h5 X W o) (attr_of h1) (few_of h4 (by simp)) h2 (star_cons (by simpa using h4)) (back_any (by rfl))
    · rename_i a b A B
      rw [Bool.and_eq_true] at h5
      exact pe_gett o.room ho (ih _ _ h5.1 X W o) (ih _ _ h5.2 X W o) ⟨attr_of h1, few_of h4 (by simp), h2, by rw [back_eq h4]; rfl⟩
    · cases h5
  · cases h
theorem revB_ok {x : Expr} {A : E} (h : revB r c x A = true) : PE X x (tE X.K Ca W C g (.rev A)) := by
  unfold revB at h
  split at h
  · simp only [Bool.and_eq_true, decide_eq_true_eq] at h
    obtain ⟨rfl, h⟩ := h
    exact pe_revv (ih _ _ h X W o)
  · simp only [Bool.and_eq_true, decide_eq_true_eq] at h
    obtain ⟨⟨⟨⟨⟨h1, rfl⟩, h2⟩, rfl⟩, h3⟩, h4⟩ := h
    obtain ⟨g1, m1⟩ := blt_of o h1
    obtain ⟨g2, m2⟩ := blt_of o h2
    exact pe_lrev o.calm g1 m1 g2 m2 (ih _ _ h4 X W o) (star_cons h3) (star_cons (by rfl))
  · cases h
theorem litB_ok {x : Expr} {l : Lit} (h : litB x l = true) : PE X x (tE X.K Ca W C g (.lit l)) := by
  unfold litB at h
  split at h
  · exact pe_lit (l := .non)
  · rw [beq_iff_eq] at h; subst h; exact pe_lit (l := .bl _)
  · rw [decide_eq_true_eq] at h; subst h; exact pe_lit (l := .int _)
  · rw [decide_eq_true_eq] at h; subst h; exact pe_lit (l := .str _)
  · cases h
theorem chkE_ok {x : Expr} {A : E} (h : chkE r c x A = true) : PE X x (tE X.K Ca W C g A) := by
  unfold chkE at h
  split at h
  · exact litB_ok ih o h
  · split at h
    · simp only [Bool.and_eq_true, decide_eq_true_eq] at h
      obtain ⟨⟨h1, h2⟩, h3⟩ := h
      obtain ⟨h3, h4⟩ := plainN_of h3
      exact pe_varr (by rw [o.N]; exact h1) (by rw [o.sc]; exact vis_of h2) h3 h4
    · cases h
  · split at h
    · simp only [Bool.and_eq_true, decide_eq_true_eq] at h
      obtain ⟨⟨h1, h2⟩, h3⟩ := h
      obtain ⟨h4, _⟩ := plainN_of h2
      obtain ⟨u, v, d, m, rv, e, hr⟩ := o.csts _ _ h3
      exact pe_globb (gl_of o h1) m rv e hr h4
    · cases h
  · split at h
    · simp only [Bool.and_eq_true, decide_eq_true_eq] at h
      obtain ⟨⟨rfl, h1⟩, h2⟩ := h
      exact pe_bin _ (ih _ _ h1 X W o) (ih _ _ h2 X W o)
    · cases h
  · split at h
    · exact pe_neg (ih _ _ h X W o)
    · cases h
  · split at h
    · exact pe_nott (ih _ _ h X W o)
    · cases h
  · split at h
    · simp only [Bool.and_eq_true, decide_eq_true_eq] at h
      obtain ⟨⟨⟨rfl, h0⟩, h1⟩, h2⟩ := h
      exact pe_cmpp o.room _ (ih _ _ h1 X W o) (ih _ _ h2 X W o) (marks_of h0)
    · cases h
  · split at h
    · simp only [Bool.and_eq_true, decide_eq_true_eq] at h
      obtain ⟨⟨⟨⟨⟨rfl, rfl⟩, h0⟩, h1⟩, h2⟩, h3⟩ := h
      exact pe_chainn o.room _ _ (ih _ _ h1 X W o) (ih _ _ h2 X W o) (ih _ _ h3 X W o) (marks_of h0)
    · cases h
  · split at h
    · rw [Bool.and_eq_true] at h
      exact pe_andd (ih _ _ h.1 X W o) (pe_one (ih _ _ h.2 X W o))
    · rw [Bool.and_eq_true] at h
      exact pe_andd (ih _ _ h.1 X W o) (ih _ _ h.2 X W o)
    · cases h
  · split at h
    · rw [Bool.and_eq_true] at h
      exact pe_orr (ih _ _ h.1 X W o) (pe_one (ih _ _ h.2 X W o))
    · rw [Bool.and_eq_true] at h
      exact pe_orr (ih _ _ h.1 X W o) (ih _ _ h.2 X W o)
    · cases h
  · split at h
    · simp only [Bool.and_eq_true] at h
      exact pe_itee (ih _ _ h.1.1 X W o) (ih _ _ h.1.2 X W o) (ih _ _ h.2 X W o)
    · cases h
  · split at h
    · exact pe_tupp (ih _ _ h X W o)
    · cases h
  · split at h
    · exact pe_lstt (ih _ _ h X W o)
    · cases h
  · exact pe_cell (ih _ _ h X W o)
  · split at h
    · rename_i ks Es _ _
      rw [Bool.and_eq_true] at h
      cases ks with
      | nil =>
        cases Es with
        | nil => exact pe_dct0
        | cons _ _ => cases h.2
      | cons _ _ => cases h.1
    · simp only [Bool.and_eq_true, decide_eq_true_eq, Bool.not_eq_true'] at h
      obtain ⟨⟨⟨⟨⟨h1, h2⟩, h3⟩, h4⟩, h5⟩, h6⟩ := h
      exact pe_dctt (ih _ _ h1 X W o _) h2 h3 (by intro z; rw [z] at h4; cases h4) h5 h6
    · cases h
  · split at h
    · simp only [Bool.and_eq_true] at h
      exact pe_idxx o.room (ih _ _ h.1.2 X W o) (ih _ _ h.2 X W o) (plain_of h.1.1)
    · cases h
  · split at h
    · simp only [Bool.and_eq_true] at h
      exact pe_slcc (ih _ _ h.1.1 X W o) (ih _ _ h.1.2 X W o) (ih _ _ h.2 X W o)
    · cases h
  · exact revB_ok ih o h
  · obtain ⟨elt, tg, iter, ifs, scope, pos, rfl, h1, h2, h3, h4, h5, h6, h7, h8⟩ := comp_ok ih o h
    have := pe_compp (W := W) (pos := pos) o.calm (by rw [o.N]; exact o.nd) h1 h3 h4 h5 h6 (fold_of h7) h8
    rw [h2] at this
    exact this
  · rename_i f Es
    cases e : callB x with
    | none => rw [e] at h; cases h
    | some p =>
      obtain ⟨n, es⟩ := p
      rw [e] at h
      obtain ⟨p, pos, rfl, hs⟩ := callB_ok ih o e
      simp only [Bool.and_eq_true, decide_eq_true_eq] at h
      obtain ⟨⟨⟨⟨h1, h2⟩, h3⟩, h4⟩, h5⟩ := h
      obtain ⟨h2, _⟩ := plainN_of h2
      obtain ⟨fa, fd, ps, F, m, kp, hb⟩ := o.fns _ _ h3
      cases es with
      | nil =>
        cases Es with
        | nil => exact pe_calll0 F o.room (gl_of o h1) m kp hb h2
        | cons _ _ => cases h5
      | cons a es =>
        cases Es with
        | nil => cases h5
        | cons A Es =>
          rw [List.all_cons, Bool.and_eq_true] at hs
          exact pe_calll o.tk F o.room (gl_of o h1) m kp hb (ih _ _ h4 X W o) h2 (star_cons hs.1) (back_any hs.2)
  · exact bltOk_ok ih o h
  · exact methOk_ok ih o h
  all_goals cases h
end
end
end J
/-! the checker is sound. -/
namespace J
open PySem L2 PySem.Spec PyProof.Rows
section
variable {k : Nat} {Ca : Str → Addr} {C : Calls} {g : List D} {r : Ct → Jd → Bool} {c : Ct} {X : Cx} {W : WX}
theorem sws_notName {e t : Expr} {l : Nat} {env : PySem.Env} (h : notName t = true) : swapsWithSole [t] e l env = pure false := sw_notName h
theorem asgn_sub {o i : Expr} {p : Pos} {env : PySem.Env} (h : notSlice i = true) : ∀ v, assign (.Subscript o i p) env v = (do
      let ov ← holding [v] (eval o env)
      let iv ← holding [v, ov] (eval i env)
      standAt p
      holding [v, ov, iv] (setItem ov iv v)
      release [v, ov, iv] []) := fun v => by
  cases i <;> first | rfl | cases h
theorem cell_core {A : E} {σ : St} {H : Hp} {Q : VK} (h : tE X.K Ca W C g (.cell A) σ H Q) : tE X.K Ca W C g A σ H Q := by
  obtain ⟨Z, G, μ, ρ, hv, rl, h⟩ := h
  refine ⟨Z, G, μ, ρ, hv, rl, ?_⟩
  simp only [evalE] at h
  unfold At M.bind at h
  unfold At
  cases e : evalE C g A ρ μ with
  | none => rw [e] at h; exact h
  | some r =>
    rw [e] at h
    cases r with
    | exc x μ1 => exact h
    | ok rv μ1 =>
      intro G1 v H1 e1 ok1 r1
      cases rv with
      | v d => exact False.elim h
      | bo i ds => exact False.elim h
      | fr ds =>
        obtain ⟨p, vs, rfl, h0, h1, h2, h3, h4⟩ := r1
        have st : Stay X.K G1 H1 ⟨G1.φ ++ [p], G1.Fz⟩ H1 := ⟨fun n a h => by
          show (G1.φ ++ [p])[n]? = some a
          obtain ⟨hl, _⟩ := List.getElem?_eq_some_iff.mp h
          rw [List.getElem?_append_left hl]; exact h, fun _ h => h, fun _ _ h _ => h, fun _ _ h _ => h⟩
        obtain ⟨e2, ok2⟩ := newCell (Ca := Ca) (c := .lst ds) e1 ok1 h0 (by rw [h1]; intro z; cases z) h3 h4 ⟨vs, h1, st.reps _ _ h2⟩ (by intro z; cases z)
        have h : ∀ G2 v H2, Ext G μ H G2 (μ1 ++ [.lst ds]) H2 → Okk X.K Ca G2 (μ1 ++ [.lst ds]) H2 → RvR X.K ρ σ G2 H H2 (.v (.ref μ1.length)) v → Q v H2 := h
        refine h _ _ _ e2 ok2 ?_
        show Rep X.K ⟨G1.φ ++ [p], G1.Fz⟩ H1 (.ref μ1.length) (.ref p)
        simp only [Rep]
        refine ⟨p, rfl, ?_⟩
        show (G1.φ ++ [p])[μ1.length]? = some p
        rw [ok1.len, List.getElem?_append_right (Nat.le_refl _)]
        simp
theorem swC_eq {elt : Expr} {gs : List Comprehension} {scope : Scope} {pos p : Pos} {x : Str} {l : Nat} {env : PySem.Env} {sc : Scope} (he : env.scope = sc) : swapsWith (.ListComp elt gs scope pos) (some (.Name x p)) l env = pure (swC sc x p.line (.ListComp elt gs scope pos)) := by
  subst he; rfl
section
variable (ih : ∀ c j, r c j = true → ∀ X W, CtOk k Ca C g X W c → Snd Ca C g X W j) (o : CtOk k Ca C g X W c)
include ih o
theorem chkT_ok {x : Expr} {A : E} (h : chkT r c x A = true) : PT X x (tT X.K Ca W C g A) := by
  unfold chkT at h
  split at h
  · split at h
    · simp only [Bool.and_eq_true, decide_eq_true_eq] at h
      obtain ⟨⟨⟨rfl, h0⟩, h1⟩, h2⟩ := h
      exact pt_cmpp o.room _ (ih _ _ h1 X W o) (ih _ _ h2 X W o) (marks_of h0)
    · cases h
  · split at h
    · simp only [Bool.and_eq_true, decide_eq_true_eq] at h
      obtain ⟨⟨⟨⟨⟨rfl, rfl⟩, h0⟩, h1⟩, h2⟩, h3⟩ := h
      exact pt_chainn o.room _ _ (ih _ _ h1 X W o) (ih _ _ h2 X W o) (ih _ _ h3 X W o) (marks_of h0)
    · cases h
  · split at h
    · exact pt_nott (ih _ _ h X W o)
    · cases h
  · exact PW.pt (ih _ _ h X W o)
  · rw [Bool.and_eq_true] at h
    exact pt_tru (ih _ _ h.2 X W o) (tru_of' h.1)
theorem chkW_ok {x : Expr} {A : E} (h : chkW r c x A = true) : PW X x (tT X.K Ca W C g A) := by
  unfold chkW at h
  split at h
  · rename_i op a pos
    cases op with
    | And => exact pw_and1 (ih _ _ h X W o)
    | Or => exact pw_or1 (ih _ _ h X W o)
  · split at h
    · rw [Bool.and_eq_true] at h
      exact pw_andd (ih _ _ h.1 X W o) (ih _ _ h.2 X W o)
    · cases h
  · split at h
    · rw [Bool.and_eq_true] at h
      exact pw_orr (ih _ _ h.1 X W o) (ih _ _ h.2 X W o)
    · cases h
  · cases h
theorem chkAs_ok {xs : List Expr} {As : List E} (h : chkAs r c xs As = true) : PA X xs (tAs X.K Ca W C g As) := by
  unfold chkAs at h
  split at h
  · exact pa_nill
  · simp only [Bool.and_eq_true] at h
    exact pa_conss (ih _ _ h.1.2 X W o) (ih _ _ h.2 X W o) (star_cons h.1.1)
  · cases h
theorem chkBs_ok {xs : List Expr} {As : List E} (h : chkBs r c xs As = true) : PA X xs (tBs X.K Ca W C g As) := by
  unfold chkBs at h
  split at h
  · exact pb_nill
  · simp only [Bool.and_eq_true] at h
    exact pb_conss (ih _ _ h.1.2 X W o) (ih _ _ h.2 X W o) (star_cons h.1.1)
  · cases h
theorem chkO_ok {x : Option Expr} {A : Option E} (h : chkO r c x A = true) : PO X x (tO X.K Ca W C g A) := by
  unfold chkO at h
  split at h
  · exact po_nonee
  · exact po_somee (ih _ _ h X W o)
  · cases h
theorem isTupX_ok {x : Expr} (h : isTupX x = true) : ∃ es k p, x = .Tuple es k p := by
  cases x <;> first | exact ⟨_, _, _, rfl⟩ | cases h
theorem chkI_ok {tg x : Expr} {A : E} (h : chkI r c tg x A = true) : PI X tg x (tI X.K Ca W C g A) := by
  unfold chkI at h
  split at h
  · split at h
    · simp only [Bool.and_eq_true, decide_eq_true_eq] at h
      obtain ⟨⟨⟨h1, rfl⟩, h3⟩, h4⟩ := h
      obtain ⟨g1, m1⟩ := blt_of o h1
      exact pi_rng g1 m1 (ih _ _ h4 X W o) (star_cons h3)
    · cases h
  · split at h
    · simp only [Bool.and_eq_true, decide_eq_true_eq] at h
      obtain ⟨⟨⟨⟨h0, h1⟩, rfl⟩, h3⟩, h4⟩ := h
      obtain ⟨g1, m1⟩ := blt_of o h1
      obtain ⟨es, kk, p, rfl⟩ := isTupX_ok ih o h0
      exact pi_enm g1 m1 (ih _ _ h4 X W o) (star_cons h3)
    · cases h
  · split at h
    · simp only [Bool.and_eq_true, decide_eq_true_eq] at h
      obtain ⟨⟨⟨⟨⟨h0, h1⟩, rfl⟩, h3⟩, h3'⟩, h4⟩ := h
      obtain ⟨g1, m1⟩ := blt_of o h1
      obtain ⟨es, kk, p, rfl⟩ := isTupX_ok ih o h0
      exact pi_zipp g1 m1 (ih _ _ h4 X W o) (star_cons h3) (back_any (by simp [h3']))
    · cases h
  · split at h
    · simp only [Bool.and_eq_true, decide_eq_true_eq] at h
      obtain ⟨⟨⟨h1, rfl⟩, h3⟩, h4⟩ := h
      obtain ⟨g1, m1⟩ := blt_of o h1
      exact pi_revv g1 m1 (ih _ _ h4 X W o) (star_cons h3)
    · cases h
  · exact pi_plain (ih _ _ h X W o)
theorem locB_ok {x : Str} (h : locB c x = true) : Loc X.env.scope x ∧ (X.fn x = true ∨ X.env.scope.names.lookup x = some .local) := by
  unfold locB at h
  simp only [Bool.or_eq_true, Bool.and_eq_true, decide_eq_true_eq] at h
  rcases h with h | ⟨h1, h2⟩
  · exact ⟨.inl (by rw [o.sc]; exact h), .inr (by rw [o.sc]; exact h)⟩
  · exact ⟨.inr (by rw [o.sc]; exact h1), .inl (o.fn x h2)⟩
theorem chkG_ok {x : Expr} {t : T} (h : chkG r c x t = true) : PG X x (gT X.K Ca t) := by
  unfold chkG at h
  split at h
  · split at h
    · simp only [Bool.and_eq_true, decide_eq_true_eq] at h
      obtain ⟨l1, l2⟩ := locB_ok ih o h.2
      exact pg_nm (by rw [o.N]; exact o.nd) (by rw [o.N]; exact h.1) l1 l2
    · cases h
  · split at h
    · simp only [Bool.and_eq_true, decide_eq_true_eq] at h
      obtain ⟨⟨h1, h2⟩, h3⟩ := h
      refine pg_tp o.calm (ih _ _ h3 X W o) (by rw [asg_map h1, List.length_map]; exact h2) ?_
      rw [asg_map h1]
      simp
    · cases h
theorem chkGs_ok {xs : List Expr} {ts : List T} (h : chkGs r c xs ts = true) : PGs X xs (gTs X.K Ca ts) := by
  unfold chkGs at h
  split at h
  · exact pgs_nill
  · simp only [Bool.and_eq_true] at h
    exact pgs_conss (ih _ _ h.1.2 X W o) (ih _ _ h.2 X W o) (by rw [asg_cons h.1.1]; rfl)
  · cases h
theorem chkC_ok {xs : List Expr} {A : Option E} (h : chkC r c xs A = true) : PTs X xs (tC' X.K Ca W C g A) := by
  unfold chkC at h
  split at h
  · exact pts_nonee
  · exact pts_somee (ih _ _ h X W o)
  · cases h
theorem keyB_ok {K : Key} {x : Option Expr} (h : keyB K x = true) : ∃ e, x = some e ∧ keyE K e := by
  unfold keyB at h
  split at h
  · rw [decide_eq_true_eq] at h; subst h; exact ⟨_, rfl, _, _, rfl⟩
  · rw [decide_eq_true_eq] at h; subst h; exact ⟨_, rfl, _, _, rfl⟩
  · cases h
theorem chkPr_ok {ks : List (Option Expr)} {xs : List Expr} {Ks : List Key} {As : List E} (h : chkPr r c ks xs Ks As = true) (pos : Pos) : PrOk X pos ks xs (tPr X.K Ca W C g Ks As) := by
  unfold chkPr at h
  split at h
  · exact pr_nil
  · simp only [Bool.and_eq_true] at h
    obtain ⟨e, rfl, q⟩ := keyB_ok ih o h.1.1
    exact pr_cons q (ih _ _ h.1.2 X W o) (ih _ _ h.2 X W o pos)
  · cases h
/-- name = value, by whichever rule -/
theorem name_ok {i : Nat} {x : Str} {p pos : Pos} {e : Expr} {A : E} {s : S} (hi : c.N[i]? = some x) (hl : locB c x = true) (h : nameB r c x p.line e A = true) (core : ∀ D σ H, tS X.K Ca W C g s D σ H → tAsg (tE X.K Ca W C g A) (gName i) D σ H) :
    PS X (.Assign [.Name x p] e pos) (tS X.K Ca W C g s) := by
  obtain ⟨l1, l2⟩ := locB_ok ih o hl
  have nd : X.N.Nodup := by rw [o.N]; exact o.nd
  have hi' : X.N[i]? = some x := by rw [o.N]; exact hi
  unfold nameB at h
  split at h
  · rename_i hsw
    have hloc : X.env.scope.names.lookup x = some .local := by
      unfold swC at hsw
      split at hsw
      · simp only [Bool.and_eq_true] at hsw
        rw [o.sc]; exact eq_of_beq hsw.1.1.2
      · cases hsw
    split at h
    · obtain ⟨elt, tg, iter, ifs, scope, pos', rfl, h1, h2, h3, h4, h5, h6, h7, h8⟩ := comp_ok ih o h
      have q := ps_setLcc (W := W) (spos := pos) (py := p) o.calm nd hi' hloc (by rw [swC_eq o.sc, hsw]) h1 h3 h4 h5 h6 (fold_of h7) h8
      rw [h2] at q
      exact q.weak core
    · obtain ⟨elt, tg, iter, ifs, scope, pos', rfl, h1, h2, h3, h4, h5, h6, h7, h8⟩ := comp_ok ih o h
      have q := ps_setLcc (W := W) (spos := pos) (py := p) o.calm nd hi' hloc (by rw [swC_eq o.sc, hsw]) h1 h3 h4 h5 h6 (fold_of h7) h8
      rw [h2] at q
      exact q.weak fun D σ H h => cell_core (core D σ H h)
    · cases h
  · rename_i hsw
    rw [Bool.and_eq_true] at h
    refine (ps_set nd hi' l1 (ih _ _ h.2 X W o) ?_ l2).weak core
    have h1 := h.1
    cases e with
    | ListComp elt gs scope pos' => rw [swC_eq o.sc, Bool.eq_false_iff.mpr hsw]
    | SetComp _ _ _ _ => cases h1
    | DictComp _ _ _ _ _ => cases h1
    | _ => rfl
theorem chkS_ok {x : Stmt} {s : S} (h : chkS r c x s = true) (hp : PassesOwn (model X.prog X.w) X.A X.env X.xe) : PS X x (tS X.K Ca W C g s) := by
  have nd : X.N.Nodup := by rw [o.N]; exact o.nd
  have ix : ∀ {i : Nat} {n : Str}, c.N[i]? = some n → X.N[i]? = some n := fun h => by rw [o.N]; exact h
  have lc : ∀ {n : Str}, c.sc.names.lookup n = some .local → X.env.scope.names.lookup n = some .local := fun h => by rw [o.sc]; exact h
  unfold chkS at h
  split at h
  · split at h
    · simp only [Bool.and_eq_true, decide_eq_true_eq] at h
      exact name_ok ih o h.1.1 h.1.2 h.2 fun D σ H q => name_core q
    · cases h
  · split at h
    · simp only [Bool.and_eq_true, Bool.or_eq_true] at h
      obtain ⟨⟨h1, h2⟩, h3⟩ := h
      refine ps_asgg (ih _ _ h1 X W o) (ih _ _ h2 X W o) (sws_notName rfl) ?_ rfl
      rcases h3 with h3 | h3
      · exact swS_noTup h3
      · split at h3
        · rw [decide_eq_true_eq] at h3
          exact swB_ok o.sc h3
        · cases h3
    · cases h
  · split at h
    · simp only [Bool.and_eq_true, decide_eq_true_eq] at h
      exact name_ok ih o h.1.1 h.1.2 h.2 fun D σ H q => own_core q
    · cases h
  · split at h
    · simp only [Bool.and_eq_true, decide_eq_true_eq] at h
      obtain ⟨⟨⟨⟨⟨⟨h1, h2⟩, h3⟩, h4⟩, h5⟩, h6⟩, h7⟩ := h
      exact ps_parr o.calm nd (ix h1) (ix h2) h7 (lc h3) (lc h4) (ih _ _ h6 X W o) (swB_ok o.sc h5) rfl
    · cases h
  · split at h
    · simp only [Bool.and_eq_true, decide_eq_true_eq] at h
      obtain ⟨⟨⟨⟨⟨⟨⟨⟨⟨⟨h1, h2⟩, h3⟩, h4⟩, h5⟩, h6⟩, h7⟩, h8⟩, h9⟩, h10⟩, h11⟩ := h
      exact ps_parr3 o.calm nd (ix h1) (ix h2) (ix h3) h9 h10 h11 (lc h4) (lc h5) (lc h6) (ih _ _ h8 X W o) (swB_ok o.sc h7) rfl
    · cases h
  · cases h
  · split at h
    · simp only [Bool.and_eq_true] at h
      exact ps_putt o.room (ih _ _ h.1.1.2 X W o) (ih _ _ h.1.2 X W o) (ih _ _ h.2 X W o) (asgn_sub h.1.1.1) (sws_notName rfl) (swS_notTup rfl) rfl
    · cases h
  · split at h
    · simp only [Bool.and_eq_true, decide_eq_true_eq] at h
      obtain ⟨⟨⟨⟨⟨rfl, h1⟩, h2⟩, h3⟩, h4⟩, h5⟩ := h
      exact ps_appp (ih _ _ h4 X W o) (ih _ _ h5 X W o) (attr_of h1) (few_of (by simp [h3]) (by simp)) h2 (star_cons h3) (back_any rfl) rfl
    · cases h
  · split at h
    · simp only [Bool.and_eq_true, decide_eq_true_eq] at h
      obtain ⟨⟨⟨⟨⟨rfl, h1⟩, h2⟩, h3⟩, h4⟩, h5⟩ := h
      exact ps_extt (ih _ _ h4 X W o) (ih _ _ h5 X W o) (attr_of h1) (few_of (by simp [h3]) (by simp)) h2 (star_cons h3) (back_any rfl) rfl
    · cases h
  · split at h
    · exact ps_rett (ih _ _ h X W o)
    · cases h
  · split at h
    · simp only [Bool.and_eq_true] at h
      exact ps_iff (ih _ _ h.1.1 X W o) (ih _ _ h.1.2 X W o hp) (ih _ _ h.2 X W o hp)
    · cases h
  · split at h
    · simp only [Bool.and_eq_true] at h
      exact ps_forr hp o.calm (ih _ _ h.1.1.1 X W o) (ih _ _ h.1.1.2 X W o) (ih _ _ h.1.2 X W o hp) (fold_of h.2)
    · cases h
  · split at h
    · simp only [Bool.and_eq_true] at h
      exact ps_whll hp (ih _ _ h.1 X W o) (ih _ _ h.2 X W o hp)
    · cases h
  · split at h
    · simp only [Bool.and_eq_true] at h
      exact ps_exprr (ih _ _ h.2 X W o) (sw_notComp h.1)
    · cases h
  · split at h
    · exact ps_passs
    · cases h
  · split at h
    · exact ps_contt
    · cases h
theorem chkSs_ok {xs : List Stmt} {s : List S} (h : chkSs r c xs s = true) (hp : PassesOwn (model X.prog X.w) X.A X.env X.xe) : PSs X xs (tSs X.K Ca W C g s) := by
  unfold chkSs at h
  split at h
  · cases xs with
    | nil => exact pss_nill
    | cons _ _ => cases h
  · exact pss_share (ih _ _ h X W o hp)
  · split at h
    · rw [Bool.and_eq_true] at h
      exact pss_conss (ih _ _ h.1 X W o hp) (ih _ _ h.2 X W o hp)
    · cases h
theorem chkJ_ok {j : Jd} (h : chkJ r c j = true) : Snd Ca C g X W j := by
  cases j with
  | e x A => exact chkE_ok ih o h
  | t x A => exact chkT_ok ih o h
  | w x A => exact chkW_ok ih o h
  | as xs As => exact chkAs_ok ih o h
  | bs xs As => exact chkBs_ok ih o h
  | o x A => exact chkO_ok ih o h
  | i tg x A => exact chkI_ok ih o h
  | g x t => exact chkG_ok ih o h
  | gs xs ts => exact chkGs_ok ih o h
  | c xs A => exact chkC_ok ih o h
  | pr ks xs Ks As => exact chkPr_ok ih o h
  | s x s => exact chkS_ok ih o h
  | ss xs s => exact chkSs_ok ih o h
end
theorem chk_ok : ∀ (n : Nat) (c : Ct) (j : Jd), chk n c j = true → ∀ X W, CtOk k Ca C g X W c → Snd Ca C g X W j
  | 0, _, _, h => by cases h
  | n + 1, c, j, h => fun X W o => chkJ_ok (chk_ok n) o h
end
end J
/-! a program's functions; constants; the end. -/
namespace J
open PySem L2 PySem.Spec PyProof.Rows
/-- a def of the text, and what is said of it -/
structure DS where
  x : Str
  N : List Str
  ps : List Str
  params : Arguments
  body : List Stmt
  scope : Scope
  F : Fn
def scopeB (N ps : List Str) (sc : Scope) : Bool := decide (sc.kind = .function) && !sc.isCoroutine && !sc.isGenerator && decide N.Nodup && decide (N.take ps.length = ps) &&
  (ps.all fun x => decide (sc.names.lookup x = some .local) || decide (sc.names.lookup x = some .cell)) && (sc.names.all fun y => decide (y.2 ≠ .free))
theorem scopeB_ok {N ps : List Str} {sc : Scope} (h : scopeB N ps sc = true) : FnScope N ps sc := by
  unfold scopeB at h
  simp only [Bool.and_eq_true, decide_eq_true_eq, List.all_eq_true, Bool.or_eq_true, Bool.not_eq_true'] at h
  obtain ⟨⟨⟨⟨⟨⟨h1, h2⟩, h3⟩, h4⟩, h5⟩, h6⟩, h7⟩ := h
  exact ⟨h1, h2, h3, h4, h5, h6, h7⟩
/-- the parameters are bound as they stand -/
def BindD (d : DS) : Prop := ∀ (kV doc pm : Value) (an : Option Addr) (cdv ct : Value) (us : List Value), us.length = d.ps.length → bindArgs (PySem.W.fnOf d.x d.x d.params d.body d.scope .none kV doc pm an cdv ct) ⟨us, []⟩ = pure (d.ps.zip us)
def allB : List DS → Prop
  | [] => True
  | d :: r => BindD d ∧ allB r
theorem allB_get : ∀ {ds : List DS} {i : Nat} {d : DS}, allB ds → ds[i]? = some d → BindD d
  | [], i, d, _, h => by simp at h
  | a :: r, 0, d, h, e => by simp at e; subst e; exact h.1
  | a :: r, i + 1, d, h, e => allB_get (i := i) h.2 (by simpa using e)
/-! ### constants -/
mutual
def repB (K : PySem.W.Frag) : D → Value → Bool
  | .non, u => decide (u = .none)
  | .bl b, u => decide (u = .bool b)
  | .int i, .int j _ => decide (i = j)
  | .str x, .str y _ => decide (x = y)
  | .tup ds, .ref a => (match K.lookup a with
    | some ⟨.type c, _, .seq its _, _⟩ => decide (c = "tuple") && decide (its.size ≤ sizeLine) && repsB K ds its.toList
    | _ => false)
  | _, _ => false
def repsB (K : PySem.W.Frag) : List D → List Value → Bool
  | [], [] => true
  | d :: ds, u :: us => repB K d u && repsB K ds us
  | _, _ => false
end
mutual
theorem repB_ok {K : PySem.W.Frag} : ∀ (d : D) (u : Value), repB K d u = true → ∃ v, RelV v u ∧ ∀ G H, Rep K G H d v
  | .non, u, h => by simp only [repB, decide_eq_true_eq] at h; subst h; exact ⟨.non, rfl, fun G H => by simp only [Rep]⟩
  | .bl b, u, h => by simp only [repB, decide_eq_true_eq] at h; subst h; exact ⟨.bl b, rfl, fun G H => rBl⟩
  | .int i, u, h => by
    cases u with
    | int j t => simp only [repB, decide_eq_true_eq] at h; subst h; exact ⟨.int i, ⟨t, rfl⟩, fun G H => rInt⟩
    | _ => simp [repB] at h
  | .str i, u, h => by
    cases u with
    | str j t => simp only [repB, decide_eq_true_eq] at h; subst h; exact ⟨.str i, ⟨t, rfl⟩, fun G H => rStr⟩
    | _ => simp [repB] at h
  | .tup ds, u, h => by
    cases u with
    | ref a =>
      simp only [repB] at h
      split at h
      · rename_i c od its n sl e
        simp only [Bool.and_eq_true, decide_eq_true_eq] at h
        obtain ⟨⟨rfl, h1⟩, h2⟩ := h
        obtain ⟨vs, r1, r2⟩ := repsB_ok ds its.toList h2
        exact ⟨.ref a, rfl, fun G H => by
          simp only [Rep]
          exact ⟨a, vs, rfl, .inr ⟨_, its, n, e, rfl, rfl, h1, r1⟩, r2 G H⟩⟩
      · cases h
    | _ => simp [repB] at h
  | .lst _, u, h => by cases u <;> simp [repB] at h
  | .ref _, u, h => by cases u <;> simp [repB] at h
  | .src _, u, h => by cases u <;> simp [repB] at h
theorem repsB_ok {K : PySem.W.Frag} : ∀ (ds : List D) (us : List Value), repsB K ds us = true → ∃ vs, Vals vs us ∧ ∀ G H, Reps K G H ds vs
  | [], [], _ => ⟨[], .nil, fun G H => Reps.nil⟩
  | [], _ :: _, h => by simp [repsB] at h
  | _ :: _, [], h => by simp [repsB] at h
  | d :: ds, u :: us, h => by
    simp only [repsB, Bool.and_eq_true] at h
    obtain ⟨v, r1, r2⟩ := repB_ok d u h.1
    obtain ⟨vs, r3, r4⟩ := repsB_ok ds us h.2
    exact ⟨v :: vs, .cons r1 r3, fun G H => Reps.cons (r2 G H) (r4 G H)⟩
end
def cstB (cs : List (Str × D)) (K : PySem.W.Frag) : Bool := cs.all fun p => match PySem.W.nsIn K mainGlobals p.1 with
  | some (some u) => repB K p.2 u
  | _ => false
/-! ### the tables -/
def tab {α : Type} (f : α → Str) (n : Nat) : List α → List (Str × Nat)
  | [] => []
  | a :: r => (f a, n) :: tab f (n + 1) r
theorem tab_get {α : Type} {f : α → Str} {x : Str} {i : Nat} : ∀ {as : List α} {n : Nat}, (tab f n as).lookup x = some i → ∃ a, n ≤ i ∧ as[i - n]? = some a ∧ f a = x
  | [], n, h => by simp [tab] at h
  | a :: r, n, h => by
    simp only [tab, List.lookup_cons] at h
    cases q : x == f a with
    | true =>
      rw [q] at h
      simp at h
      subst h
      exact ⟨a, Nat.le_refl _, by simp, (eq_of_beq q).symm⟩
    | false =>
      rw [q] at h
      obtain ⟨b, h1, h2, h3⟩ := tab_get (as := r) (n := n + 1) h
      refine ⟨b, by omega, ?_, h3⟩
      rw [show i - n = (i - (n + 1)) + 1 by omega, List.getElem?_cons_succ]
      exact h2
structure Pg where
  Ds : List DS
  cs : List (Str × D)
  bs : List Str
def Pg.ct (p : Pg) (d : DS) : Ct := ⟨d.N, d.scope, fun _ => true, tab (·.x) 0 p.Ds, tab (·.1) 0 p.cs, p.bs⟩
def Pg.fn (p : Pg) : List Fn := p.Ds.map (·.F)
def Pg.g (p : Pg) : List D := p.cs.map (·.2)
def Pg.okD (p : Pg) (n : Nat) (d : DS) : Bool := scopeB d.N d.ps d.scope && decide (d.F.np = d.ps.length) && decide (d.F.ns = d.N.length) && chk n (p.ct d) (.ss d.body d.F.body)
def DS.defD (d : DS) : He.DefD := ⟨(d.x, none), d.x, d.x, d.params, d.body, d.scope, [], []⟩
def Pg.fa (p : Pg) : List He.Fa := p.Ds.map (fun d => .glo d.x) ++ p.bs.map .free
def Pg.fnD (p : Pg) : List He.DefD := p.Ds.map DS.defD
def Pg.ex (p : Pg) (K : PySem.W.Frag) : Bool := cstB p.cs K
section
variable {P : Program} {w : World} {K : PySem.W.Frag} {mg : Str → Option Value} {base : Heap} {h : Heap} {Ca : Str → Addr}
theorem sp_len {p : Pg} {k f : Nat} {d : DS} (e : p.Ds[f]? = some d) (hn : d.F.np = d.ps.length) {vs : List V} {H : Hp} {Q : VK} {E : XK} (h : spI K Ca (callP p.fn p.g (k + 1) f) vs H Q E) : vs.length = d.ps.length := by
  obtain ⟨G, μ, ds, ok, r, h⟩ := h
  have ef : p.fn[f]? = some d.F := by unfold Pg.fn; rw [List.getElem?_map, e]; rfl
  simp only [callP, ef] at h
  by_cases hc : ds.length = d.F.np
  · rw [← r.length, hc, hn]
  · rw [if_neg hc] at h; exact h.elim
theorem start_sl {K : PySem.W.Frag} {G : Gh} {H : Hp} {ds : List D} {vs : List V} {F : Fn} {N : List Str} (r : Reps K G H ds vs) (hN : F.ns = N.length) (hle : vs.length ≤ N.length) : SlR K G H H (start F ds) (L2.start N vs) where
  len := by unfold start L2.start; simp [r.length, hN]
  val := fun i d h => by
    unfold start at h
    unfold L2.start
    by_cases hi : i < ds.length
    · rw [List.getElem?_append_left (by simpa using hi), List.getElem?_map] at h
      cases q : ds[i]? with
      | none => rw [q] at h; cases h
      | some d' =>
        rw [q] at h; cases h
        obtain ⟨v, h1, h2⟩ := r.get q
        refine ⟨v, ?_, h2⟩
        rw [List.getElem?_append_left (by simp; rw [← r.length]; exact hi), List.getElem?_map, h1]; rfl
    · rw [List.getElem?_append_right (by simpa using hi)] at h
      have := List.mem_of_getElem? h
      rw [List.mem_replicate] at this
      cases this.2
  own := fun i es h => by
    unfold start at h
    by_cases hi : i < ds.length
    · rw [List.getElem?_append_left (by simpa using hi), List.getElem?_map] at h
      cases q : ds[i]? with
      | none => rw [q] at h; cases h
      | some d' => rw [q] at h; cases h
    · rw [List.getElem?_append_right (by simpa using hi)] at h
      have := List.mem_of_getElem? h
      rw [List.mem_replicate] at this
      cases this.2
  dis := fun i j a es fs h => by
    exfalso
    unfold start at h
    by_cases hi : i < ds.length
    · rw [List.getElem?_append_left (by simpa using hi), List.getElem?_map] at h
      cases q : ds[i]? with
      | none => rw [q] at h; cases h
      | some d' => rw [q] at h; cases h
    · rw [List.getElem?_append_right (by simpa using hi)] at h
      have := List.mem_of_getElem? h
      rw [List.mem_replicate] at this
      cases this.2
theorem prog_ok {p : Pg} {n : Nat} (hD : ∀ (f : Nat) (d : DS), p.Ds[f]? = some d → p.okD n d = true ∧ ∃ fa fd, FunD K d.x d.x d.params d.body d.scope [] [] fa fd ∧ Binds K fd d.ps [] ∧ mg d.x = some (.ref fa) ∧ ∀ (s : Shared) (us : List Value), us.length = d.ps.length → BindsTo s fd ⟨us, []⟩ (d.ps.zip us))
    (hC : ∀ (i : Nat) (c : Str × D), p.cs[i]? = some c → ∃ u v, mg c.1 = some u ∧ RelV v u ∧ ∀ G H, Rep K G H c.2 v) (hB : ∀ x ∈ p.bs, mg x = none) :
    ∀ (k : Nat) (f : Nat) (d : DS), p.Ds[f]? = some d → ∃ fa fd, (∀ base, FnOk P w K mg base (L2.CX P w) k fa fd d.ps (spI K Ca (callP p.fn p.g k f))) ∧ mg d.x = some (.ref fa) ∧ PySem.W.keepIn K (.ref fa) = true ∧ Binds K fd d.ps [] ∧ ∀ (s : Shared) (us : List Value), us.length = d.ps.length → BindsTo s fd ⟨us, []⟩ (d.ps.zip us)
  | 0, f, d, e => by
    obtain ⟨_, fa, fd, F, b, m, bA⟩ := hD f d e
    exact ⟨fa, fd, fun base => ⟨fun vs H Q E ⟨_, _, _, _, _, h⟩ => h.elim, fun A outer s H args us vs Q E _ _ _ _ ⟨_, _, _, _, _, h⟩ => h.elim⟩, m, F.kp, b, bA⟩
  | k + 1, f, d, e => by
    obtain ⟨hok, fa, fd, F, b, m, bA⟩ := hD f d e
    refine ⟨fa, fd, fun base => ?_, m, F.kp, b, bA⟩
    unfold Pg.okD at hok
    simp only [Bool.and_eq_true, decide_eq_true_eq] at hok
    obtain ⟨⟨⟨h1, h2⟩, h3⟩, h4⟩ := hok
    have S := scopeB_ok h1
    refine F.ok S (fun vs H Q E h => sp_len e h2 h) fun cdv A outer s H vs Q E hr hsp => ?_
    have hlv := sp_len e h2 hsp
    obtain ⟨G, μ, ds, ok, r, at_⟩ := hsp
    have tk : Takes (cxOf (L2.CX P w) P w K mg base d.N d.x d.scope fa cdv A outer s H E) (fun cls d _ H => E cls d H) := takes_of rfl rfl rfl rfl
    have o : CtOk k Ca (callP p.fn p.g k) p.g (cxOf (L2.CX P w) P w K mg base d.N d.x d.scope fa cdv A outer s H E) (fun cls d _ H => E cls d H) (p.ct d) :=
      ⟨rfl, S.nd, rfl, fun _ _ => rfl, rfl, hr, tk, fun x i hx => by
        obtain ⟨d', _, h5, rfl⟩ := tab_get hx
        obtain ⟨fa', fd', q1, q2, q3, q4, _⟩ := prog_ok hD hC hB k i d' h5
        exact ⟨fa', fd', d'.ps, q1 base, q2, q3, q4⟩, fun x i hx => by
        obtain ⟨c, _, h5, rfl⟩ := tab_get hx
        obtain ⟨u, v, q1, q2, q3⟩ := hC i c h5
        exact ⟨u, v, c.2, q1, q2, by unfold Pg.g; rw [List.getElem?_map, show p.cs[i]? = some c from h5]; rfl, q3⟩, hB⟩
    refine ⟨_, chk_ok n _ _ h4 _ _ o (passes_of (K := fun e s'' => L2.CX P w outer H s E e s'') rfl), ⟨G, μ, H, G, H⟩, G, μ, start d.F ds, [], ⟨Ext.refl _ _ _, ok, start_sl r h3 ?_, fun p hp => (by cases hp), Stay.refl _ _⟩, ?_⟩
    · have := congrArg List.length S.pre
      rw [List.length_take] at this
      omega
    · have ef : p.fn[f]? = some d.F := by unfold Pg.fn; rw [List.getElem?_map, e]; rfl
      simp only [callP, ef] at at_
      rw [if_pos (by rw [r.length, hlv, h2])] at at_
      unfold At M.bind noex at at_
      show AtR K Ca (fun cls d _ H => E cls d H) _ (evalSs (callP p.fn p.g k) p.g d.F.body (start d.F ds) μ) _
      cases q : evalSs (callP p.fn p.g k) p.g d.F.body (start d.F ds) μ with
      | none => rw [q] at at_; exact at_
      | some rr =>
        rw [q] at at_
        cases rr with
        | exc x μ1 => exact at_.elim
        | ok fl μ1 =>
          cases fl with
          | nx ρ1 => exact fun G1 σ1 H1 rl => at_ G1 .non H1 rl.ext rl.ok (by simp only [RvR, Rep])
          | ct ρ1 => exact at_.elim
          | rt rv => exact fun G1 v H1 e ok r => at_ G1 v H1 e ok r
          | ex x ρ1 => exact fun G1 σ1 H1 cls d rl ex => at_ G1 H1 cls d rl.ext rl.ok ex
end
end J
/-! a law's end. -/
namespace J
open PySem L2 PySem.Spec PyProof.Rows
section
variable {P : Program} {w : World} {K : PySem.W.Frag} {mg : Str → Option Value} {h : Heap}
theorem cst_ok {p : Pg} (X : K.In h) (G : h.Ns mainGlobals mg) (c : cstB p.cs K = true) {i : Nat} {q : Str × D} (e : p.cs[i]? = some q) : ∃ u v, mg q.1 = some u ∧ RelV v u ∧ ∀ G H, Rep K G H q.2 v := by
  have := List.all_eq_true.mp c q (List.mem_of_getElem? e)
  split at this
  · rename_i u hu
    obtain ⟨v, r1, r2⟩ := repB_ok q.2 u this
    exact ⟨u, v, PySem.W.mg_of X G hu, r1, r2⟩
  · cases this
theorem def_ok {p : Pg} {n : Nat} (X : K.In h) (G : h.Ns mainGlobals mg) (c : He.SaysD p.fa p.fnD K) (hk : p.Ds.all (p.okD n) = true) (hb : allB p.Ds) {f : Nat} {d : DS} (e : p.Ds[f]? = some d) :
    p.okD n d = true ∧ ∃ fa fd, FunD K d.x d.x d.params d.body d.scope [] [] fa fd ∧ Binds K fd d.ps [] ∧ mg d.x = some (.ref fa) ∧ ∀ (s : Shared) (us : List Value), us.length = d.ps.length → BindsTo s fd ⟨us, []⟩ (d.ps.zip us) := by
  refine ⟨List.all_eq_true.mp hk d (List.mem_of_getElem? e), ?_⟩
  have hd : d.defD ∈ p.fnD := List.mem_map.mpr ⟨d, List.mem_of_getElem? e, rfl⟩
  obtain ⟨fd, F⟩ := c.defs hd
  have hg : He.Fa.glo d.x ∈ p.fa := List.mem_append_left _ (List.mem_map.mpr ⟨d, List.mem_of_getElem? e, rfl⟩)
  have F : FunD K d.x d.x d.params d.body d.scope [] [] (He.ga K d.x) fd := F
  exact ⟨_, fd, F, F.bindsN (allB_get hb e), He.glo_ok X G (c.facts hg), F.bindsA (allB_get hb e)⟩
theorem blt_ok' {p : Pg} (X : K.In h) (G : h.Ns mainGlobals mg) (c : He.SaysD p.fa p.fnD K) : ∀ x ∈ p.bs, mg x = none := fun x hx =>
  He.free_ok X G (c.facts (List.mem_append_right _ (List.mem_map.mpr ⟨x, hx, rfl⟩)))
/-- the evaluation's answer -/
def Says (p : Pg) (k L : Nat) (ns : List Int) : Prop := ∃ μ, callP p.fn p.g k L [.src ns] [] = some (.ok (.v (.bl true)) μ)
theorem sp_law {Ca : Str → Addr} {p : Pg} {k L : Nat} {ns : List Int} (ev : Says p k L ns) {H : Hp} {a : Addr} (hS : SqL K H a (ns.map V.int)) {E : XK} : spI K Ca (callP p.fn p.g k L) [.ref a] H (fun v _ => v = .bl true) E := by
  obtain ⟨μ, ev⟩ := ev
  have key : ∀ Fz : Addr → Prop, (∀ b, Fz b → H b ≠ none) → Rep K ⟨[], Fz⟩ H (.src ns) (.ref a) → spI K Ca (callP p.fn p.g k L) [.ref a] H (fun v _ => v = .bl true) E := fun Fz hf r => by
    refine ⟨⟨[], Fz⟩, [], [.src ns], ⟨rfl, fun n m a h => by simp at h, fun n a h => by simp at h, fun b ⟨n, c, h, _⟩ => by simp at h, hf, fun n c a h => by simp at h⟩, .one r, ?_⟩
    unfold At
    rw [ev]
    exact fun G1 v H1 _ _ r => by simpa only [RvR, Rep] using r
  rcases hS with hS | hS
  · refine key (fun b => b = a) (fun b e z => ?_) (by simp only [Rep]; exact ⟨a, rfl, .inl ⟨rfl, hS⟩⟩)
    rw [e] at z
    rcases hS with hS | ⟨o, hS⟩ <;> (rw [hS] at z; cases z)
  · exact key (fun _ => False) (fun b f => f.elim) (by simp only [Rep]; exact ⟨a, rfl, .inr hS⟩)
/-- nothing is let out -/
theorem fn_nox {base : Heap} {k : Nat} {f : Addr} {fd : FuncData} {ps : List Str} {sp : Sp} (F : FnOk P w K mg base (L2.CX P w) k f fd ps sp) : FnOk P w K mg base L2.CX0 k f fd ps fun vs H Q _ => sp vs H Q L2.E0 :=
  ⟨fun vs H Q E h => F.len vs H Q _ h, fun A outer s H args us vs Q E hr he hb hv hs => codeAny_mono (F.run A outer s H args us vs Q L2.E0 hr he hb hv hs) fun r s' h => by
    cases r with
    | ok fl => cases fl <;> exact h
    | error e =>
      obtain ⟨_, _, _, _, _, _, _, _, _, _, _, _, z⟩ := h
      exact z.elim⟩
theorem law_F {p : Pg} {n k L : Nat} {d : DS} {x : Str} (X : K.In h) (G : h.Ns mainGlobals mg) (c : He.SaysX p.fa p.fnD [] [] p.ex w h K) (hk : p.Ds.all (p.okD n) = true) (hb : allB p.Ds) (e : p.Ds[L]? = some d) (hx : d.ps = [x]) {fa : Addr} (hfa : mg d.x = some (.ref fa)) (ev : ∀ ns : List Int, ns.length ≤ 63 → Says p k L ns) :
    ∃ (K' : PySem.W.Frag) (fd : FuncData) (sp : Sp), K'.In h ∧ (∀ (s : Shared) (u : Value), BindsTo s fd ⟨[u], []⟩ [(x, u)]) ∧
      (∀ (H : Hp) (a : Addr) (ns : List Int), ns.length ≤ 63 → Only H → SqL K' H a (ns.map V.int) → sp [.ref a] H (fun v _ => v = .bl true) fun _ _ _ => False) ∧
      ∀ base : Heap, K'.In base → base.Ns mainGlobals mg → FnOk P w K' mg base L2.CX0 k fa fd [x] sp := by
  have cd := c.t.d
  obtain ⟨fa', fd, F, m, _, _, bA⟩ := prog_ok (P := P) (w := w) (Ca := fun x => He.ga K x) (fun f d e => def_ok X G cd hk hb e) (fun i q e => cst_ok X G c.more e) (blt_ok' X G cd) k L d e
  rw [hfa] at m; cases m
  rw [hx] at F bA
  exact ⟨K, fd, fun vs H Q _ => spI K (fun x => He.ga K x) (callP p.fn p.g k L) vs H Q L2.E0, X, fun s u => bA s [u] rfl, fun H a ns hl _ hS => sp_law (ev ns hl) hS, fun base _ _ => fn_nox (F base)⟩
end
end J
/-! evaluations that come to an end: rules. -/
namespace J
open PySem L2
/-- m comes to an end, without an exception, in Q -/
def Ok {α : Type} (m : M α) (μ : Sto) (Q : α → Sto → Prop) : Prop := ∃ a μ', m μ = some (.ok a μ') ∧ Q a μ'
/-- a statement comes to an end, without an exception, in Q -/
def OkS (m : M Flo) (μ : Sto) (Q : Flo → Sto → Prop) : Prop := ∃ f μ', m μ = some (.ok f μ') ∧ (match f with | .ex _ _ => False | _ => True) ∧ Q f μ'
section
variable {α β : Type} {m : M α} {k : α → M β} {μ : Sto} {Q Q' : α → Sto → Prop} {P : β → Sto → Prop} {S S' : Flo → Sto → Prop}
theorem Ok.mono (h : Ok m μ Q) (i : ∀ a μ, Q a μ → Q' a μ) : Ok m μ Q' := let ⟨a, μ', e, q⟩ := h; ⟨a, μ', e, i _ _ q⟩
theorem OkS.mono {m : M Flo} (h : OkS m μ S) (i : ∀ a μ, S a μ → S' a μ) : OkS m μ S' := let ⟨a, μ', e, x, q⟩ := h; ⟨a, μ', e, x, i _ _ q⟩
theorem ok_bind : Ok (M.bind m k) μ P ↔ Ok m μ fun a μ1 => Ok (k a) μ1 P := by
  constructor
  · rintro ⟨b, μ2, e, q⟩
    obtain ⟨a, μ1, h1, h2⟩ := bind_ok e
    exact ⟨a, μ1, h1, b, μ2, h2, q⟩
  · rintro ⟨a, μ1, h1, b, μ2, h2, q⟩
    refine ⟨b, μ2, ?_, q⟩
    unfold M.bind; rw [h1]; exact h2
theorem ok_pure {a : α} : Ok (M.pure a) μ Q ↔ Q a μ := ⟨fun ⟨_, _, e, q⟩ => by cases e; exact q, fun q => ⟨a, μ, rfl, q⟩⟩
theorem ok_some {a : α} : Ok (oM (some a)) μ Q ↔ Q a μ := ok_pure
theorem ok_none : Ok (oM (none : Option α)) μ Q ↔ False := ⟨fun ⟨_, _, e, _⟩ => (by cases e), fun h => h.elim⟩
theorem ok_stuck : Ok (stuck : M α) μ Q ↔ False := ⟨fun ⟨_, _, e, _⟩ => (by cases e), fun h => h.elim⟩
theorem ok_noex : Ok (noex m) μ Q ↔ Ok m μ Q := by
  constructor
  · rintro ⟨a, μ', e, q⟩
    unfold noex at e
    split at e
    · cases e; exact ⟨_, _, by assumption, q⟩
    · cases e
  · rintro ⟨a, μ', e, q⟩
    exact ⟨a, μ', by unfold noex; rw [e], q⟩
theorem ok_ite {c : Prop} [Decidable c] {m' : M α} : Ok (if c then m else m') μ Q ↔ if c then Ok m μ Q else Ok m' μ Q := by split <;> exact Iff.rfl
theorem ok_oM {o : Option α} {a : α} (e : o = some a) (q : Q a μ) : Ok (oM o) μ Q := by rw [e]; exact ok_some.mpr q
theorem oks_stE {ρ : Env} {m : M α} {k : α → M Flo} : OkS (stE ρ m k) μ S ↔ Ok m μ fun a μ1 => OkS (k a) μ1 S := by
  unfold OkS stE
  constructor
  · rintro ⟨f, μ', e, x, q⟩
    cases h : m μ with
    | none => rw [h] at e; cases e
    | some r =>
      rw [h] at e
      cases r with
      | exc y μ1 => cases e; exact False.elim x
      | ok a μ1 => exact ⟨a, μ1, h, f, μ', e, x, q⟩
  · rintro ⟨a, μ1, h, f, μ', e, x, q⟩
    exact ⟨f, μ', by rw [h]; exact e, x, q⟩
theorem oks_bind {m : M α} {k : α → M Flo} : OkS (M.bind m k) μ S ↔ Ok m μ fun a μ1 => OkS (k a) μ1 S := by
  unfold OkS
  constructor
  · rintro ⟨f, μ', e, x, q⟩
    obtain ⟨a, μ1, h1, h2⟩ := bind_ok e
    exact ⟨a, μ1, h1, f, μ', h2, x, q⟩
  · rintro ⟨a, μ1, h, f, μ', e, x, q⟩
    exact ⟨f, μ', by unfold M.bind; rw [h]; exact e, x, q⟩
/-- one statement after another -/
theorem oks_seq {m : M Flo} {k : Flo → M Flo} (hk : ∀ x ρ, k (.ex x ρ) = M.pure (.ex x ρ)) : OkS (M.bind m k) μ S ↔ OkS m μ fun f μ1 => OkS (k f) μ1 S := by
  unfold OkS
  constructor
  · rintro ⟨f, μ', e, x, q⟩
    obtain ⟨a, μ1, h1, h2⟩ := bind_ok e
    refine ⟨a, μ1, h1, ?_, f, μ', h2, x, q⟩
    cases a with
    | ex y ρ => rw [hk] at h2; cases h2; exact x
    | _ => trivial
  · rintro ⟨a, μ1, h, _, f, μ', e, x, q⟩
    exact ⟨f, μ', by unfold M.bind; rw [h]; exact e, x, q⟩
theorem oks_nx {ρ : Env} : OkS (M.pure (.nx ρ)) μ S ↔ S (.nx ρ) μ := ⟨fun ⟨_, _, e, _, q⟩ => by cases e; exact q, fun q => ⟨_, _, rfl, trivial, q⟩⟩
theorem oks_rt {r : RV} : OkS (M.pure (.rt r)) μ S ↔ S (.rt r) μ := ⟨fun ⟨_, _, e, _, q⟩ => by cases e; exact q, fun q => ⟨_, _, rfl, trivial, q⟩⟩
theorem oks_ct {ρ : Env} : OkS (M.pure (.ct ρ)) μ S ↔ S (.ct ρ) μ := ⟨fun ⟨_, _, e, _, q⟩ => by cases e; exact q, fun q => ⟨_, _, rfl, trivial, q⟩⟩
theorem oks_stuck : OkS stuck μ S ↔ False := ⟨fun ⟨_, _, e, _⟩ => (by cases e), fun h => h.elim⟩
theorem oks_ite {c : Prop} [Decidable c] {m m' : M Flo} : OkS (if c then m else m') μ S ↔ if c then OkS m μ S else OkS m' μ S := by split <;> exact Iff.rfl
end
section
variable {C : Calls} {g : List D} {μ : Sto} {S : Flo → Sto → Prop}
theorem oks_nil {ρ : Env} : OkS (evalSs C g [] ρ) μ S ↔ S (.nx ρ) μ := by simp only [evalSs]; exact oks_nx
theorem oks_cons {s : J.S} {ss : List J.S} {ρ : Env} : OkS (evalSs C g (s :: ss) ρ) μ S ↔ OkS (evalS C g s ρ) μ fun f μ1 => match f with
    | .nx ρ1 => OkS (evalSs C g ss ρ1) μ1 S
    | y => S y μ1 := by
  simp only [evalSs]
  refine (oks_seq ?_).trans ?_
  · intro x ρ; rfl
  unfold OkS
  constructor
  · rintro ⟨f, μ', e, x, f2, μ2, e2, x2, q⟩
    refine ⟨f, μ', e, x, ?_⟩
    cases f with
    | nx ρ1 => exact ⟨f2, μ2, e2, x2, q⟩
    | rt r => cases e2; exact q
    | ct ρ1 => cases e2; exact q
    | ex y ρ1 => exact False.elim x
  · rintro ⟨f, μ', e, x, h⟩
    refine ⟨f, μ', e, x, ?_⟩
    cases f with
    | nx ρ1 => exact h
    | rt r => exact ⟨_, _, rfl, trivial, h⟩
    | ct ρ1 => exact ⟨_, _, rfl, trivial, h⟩
    | ex y ρ1 => exact False.elim x
/-! ### a function called -/
theorem ok_call {Pr : List Fn} {k f : Nat} {F : Fn} {ds : List D} {Q : RV → Sto → Prop} (e : Pr[f]? = some F) (hl : ds.length = F.np)
    (h : OkS (evalSs (callP Pr g k) g F.body (start F ds)) μ fun fl μ1 => match fl with
      | .nx _ => Q (.v .non) μ1
      | .rt r => Q r μ1
      | _ => False) : Ok (callP Pr g (k + 1) f ds) μ Q := by
  obtain ⟨fl, μ', e1, x, q⟩ := h
  simp only [callP, e, if_pos hl]
  rw [ok_bind, ok_noex]
  refine ⟨fl, μ', e1, ?_⟩
  cases fl with
  | nx ρ => exact ok_pure.mpr q
  | rt r => exact ok_pure.mpr q
  | ct ρ => exact False.elim q
  | ex y ρ => exact False.elim x
/-! ### lists walked -/
inductive All2 {α β : Type} (R : α → β → Prop) : List α → List β → Prop
  | nil : All2 R [] []
  | cons {a : α} {b : β} {as : List α} {bs : List β} (h : R a b) (t : All2 R as bs) : All2 R (a :: as) (b :: bs)
/-- each item, by an invariant of the store and what is known of the results -/
theorem ok_items {f : D → M (Option D)} {I : Sto → Prop} {T : D → Option D → Prop} : ∀ {ds : List D} {μ : Sto}, (∀ d ∈ ds, ∀ μ, I μ → Ok (f d) μ fun o μ' => I μ' ∧ T d o) → I μ → Ok (mapItems f ds) μ fun r μ' => I μ' ∧ ∃ os : List (Option D), All2 T ds os ∧ r = os.filterMap id
  | [], μ, _, i => by
    simp only [mapItems]
    exact ok_pure.mpr ⟨i, [], .nil, rfl⟩
  | d :: ds, μ, h, i => by
    simp only [mapItems]
    rw [ok_bind]
    refine (h d List.mem_cons_self μ i).mono fun o μ1 ⟨i1, t⟩ => ?_
    rw [ok_bind]
    refine (ok_items (fun d hd => h d (List.mem_cons_of_mem _ hd)) i1).mono fun r μ2 ⟨i2, os, ht, hr⟩ => ?_
    refine ok_pure.mpr ⟨i2, o :: os, .cons t ht, ?_⟩
    cases o with
    | none => simpa using hr
    | some x => simp [hr]
/-- .. where nothing hangs on the store -/
theorem items_pure {f : D → M (Option D)} {h : D → Option D} : ∀ {ds : List D} {μ : Sto}, (∀ d ∈ ds, f d μ = some (.ok (h d) μ)) → mapItems f ds μ = some (.ok (ds.filterMap h) μ)
  | [], μ, _ => rfl
  | d :: ds, μ, e => by
    simp only [mapItems]
    unfold M.bind
    rw [e d List.mem_cons_self]
    simp only
    rw [items_pure fun d hd => e d (List.mem_cons_of_mem _ hd)]
    cases q : h d with
    | none => simp [q, M.pure]
    | some x => simp [q, M.pure]
/-- a loop, by an invariant -/
theorem oks_each {f : D → Env → M Flo} {I : List D → Env → Sto → Prop} : ∀ {ds : List D} {ρ : Env} {μ : Sto}, (∀ d r ρ μ, I (d :: r) ρ μ → OkS (f d ρ) μ fun fl μ1 => match fl with
      | .nx ρ1 => I r ρ1 μ1
      | .ct ρ1 => I r ρ1 μ1
      | y => S y μ1) → (∀ ρ μ, I [] ρ μ → S (.nx ρ) μ) → I ds ρ μ → OkS (eachM f ds ρ) μ S
  | [], ρ, μ, _, h0, i => by
    simp only [eachM]
    exact oks_nx.mpr (h0 ρ μ i)
  | d :: ds, ρ, μ, h, h0, i => by
    simp only [eachM]
    refine (oks_seq ?_).mpr ?_
    · intro x ρ; rfl
    obtain ⟨fl, μ1, e, x, q⟩ := h d ds ρ μ i
    refine ⟨fl, μ1, e, x, ?_⟩
    cases fl with
    | nx ρ1 => exact oks_each h h0 q
    | ct ρ1 => exact oks_each h h0 q
    | rt r => exact oks_rt.mpr q
    | ex y ρ1 => exact False.elim x
/-- a while, by an invariant and a measure -/
theorem oks_whl {c : E} {b : List J.S} {I : Nat → Env → Sto → Prop} {n : Nat} {ρ : Env} (hn : n < fuelW) (i0 : I n ρ μ)
    (h : ∀ n ρ μ, I n ρ μ → Ok (evalT C g c ρ) μ fun t μ1 => if t = true then OkS (evalSs C g b ρ) μ1 (fun fl μ2 => match fl with
      | .nx ρ1 => ∃ m, m < n ∧ I m ρ1 μ2
      | .ct ρ1 => ∃ m, m < n ∧ I m ρ1 μ2
      | y => S y μ2) else S (.nx ρ) μ1) : OkS (evalS C g (.whl c b) ρ) μ S := by
  have key : ∀ n N ρ μ, n < N → I n ρ μ → OkS (fun μ => loopF (whlStep (fun ρ => evalT C g c ρ) (fun ρ => evalSs C g b ρ)) N (ρ, μ)) μ S := by
    intro n
    induction n using Nat.strongRecOn with
    | _ n ih =>
      intro N ρ μ hN i
      cases N with
      | zero => omega
      | succ N =>
        obtain ⟨t, μ1, e1, q⟩ := h n ρ μ i
        cases t with
        | false =>
          rw [if_neg Bool.false_ne_true] at q
          exact ⟨.nx ρ, μ1, by simp only [loopF, whlStep, e1], trivial, q⟩
        | true =>
          rw [if_pos rfl] at q
          obtain ⟨fl, μ2, e2, x, q⟩ := q
          cases fl with
          | nx ρ1 =>
            obtain ⟨m, hm, i2⟩ := q
            obtain ⟨f3, μ3, e3, x3, q3⟩ := ih m hm N ρ1 μ2 (by omega) i2
            exact ⟨f3, μ3, by simp only [loopF, whlStep, e1, e2]; exact e3, x3, q3⟩
          | ct ρ1 =>
            obtain ⟨m, hm, i2⟩ := q
            obtain ⟨f3, μ3, e3, x3, q3⟩ := ih m hm N ρ1 μ2 (by omega) i2
            exact ⟨f3, μ3, by simp only [loopF, whlStep, e1, e2]; exact e3, x3, q3⟩
          | rt r => exact ⟨.rt r, μ2, by simp only [loopF, whlStep, e1, e2], trivial, q⟩
          | ex y ρ1 => exact False.elim x
  simp only [evalS]
  exact key n fuelW ρ μ hn i0
end
end J
/-! the deal and the draw that all the laws share. -/
namespace J
open PySem L2
def fnDeal : Fn := ⟨2, 5, [.asg (.nm 2) (.comp [3] (.nm 3) (.slc (.var 0) (some (.var 1)) (some (.lit (.int 63)))) none (.blt .max2 [(.var 3), (.bin .sub (.lit (.int 0)) (.var 3))])), .asg (.nm 4) (.bin .add (.lit (.int 7919)) (.var 1)),
    .fors (.nm 3) (.var 2) [.asg (.nm 4) (.bin .mod (.bin .add (.bin .mul (.var 4) (.lit (.int 48271))) (.bin .mod (.var 3) (.lit (.int 2147483629)))) (.lit (.int 2147483647)))],
    .ret (.dct [.inr "seed", .inr "number", .inr "left"] [(.var 4), (.lit (.int 0)), (.cell (.rev (.comp [3] (.nm 3) (.var 2) (some (.cmp .ge (.var 3) (.bin .pow (.lit (.int 10)) (.lit (.int 18))))) (.var 3))))])]⟩
def drwB : List S := [.put (.var 0) (.lit (.str "number")) (.meth .pop (.idx (.var 0) (.lit (.str "left"))) [])]
def drwC : E := .and (.cmp .eq (.idx (.var 0) (.lit (.str "number"))) (.lit (.int 0))) (.cmp .gt (.blt .len [(.idx (.var 0) (.lit (.str "left")))]) (.lit (.int 0)))
def fnDraw : Fn := ⟨2, 5, [.whl drwC drwB,
    .asg (.nm 2) (.idx (.var 0) (.lit (.str "number"))), .ifs (.cmp .gt (.var 2) (.lit (.int 0))) [.put (.var 0) (.lit (.str "number")) (.bin .fdiv (.var 2) (.var 1)), .ret (.bin .mod (.var 2) (.var 1))] [],
    .asg (.nm 3) (.bin .mod (.bin .add (.bin .mul (.idx (.var 0) (.lit (.str "seed"))) (.lit (.int 48271))) (.lit (.int 7919))) (.lit (.int 2147483647))),
    .put (.var 0) (.lit (.str "seed")) (.bin .mod (.bin .add (.bin .mul (.var 3) (.lit (.int 40692))) (.lit (.int 104729))) (.lit (.int 2147483399))),
    .asg (.nm 4) (.bin .mod (.bin .mul (.idx (.var 0) (.lit (.str "seed"))) (.idx (.var 0) (.lit (.str "seed")))) (.lit (.int 2147483563))),
    .ret (.bin .mod (.bin .add (.bin .mul (.bin .mod (.bin .mul (.var 3) (.var 3)) (.lit (.int 2147483629))) (.lit (.int 2147483563))) (.var 4)) (.var 1))]⟩
def dealD (s a : Int) (m : Nat) : List (Key × D) := [(.inr "seed", .int s), (.inr "number", .int a), (.inr "left", .ref m)]
theorem find_seed {s a : Int} {m : Nat} : findK (dealD s a m) (.inr "seed") = some (.int s) := by kernel_rfl
theorem find_number {s a : Int} {m : Nat} : findK (dealD s a m) (.inr "number") = some (.int a) := by kernel_rfl
theorem find_left {s a : Int} {m : Nat} : findK (dealD s a m) (.inr "left") = some (.ref m) := by kernel_rfl
theorem set_seed {s a s' : Int} {m : Nat} : setK (dealD s a m) (.inr "seed") (.int s') = dealD s' a m := by kernel_rfl
theorem set_number {s a a' : Int} {m : Nat} : setK (dealD s a m) (.inr "number") (.int a') = dealD s a' m := by kernel_rfl
/-- a deal stands at n, its list at m -/
structure Deal (μ : Sto) (n m : Nat) : Prop where
  ne : n ≠ m
  ex : ∃ s a ds, μ[n]? = some (.dct (dealD s a m)) ∧ μ[m]? = some (.lst ds) ∧ 0 ≤ s ∧ s < 2 ^ 32 ∧ ds.length ≤ 64 ∧ ∀ d ∈ ds, ∃ i, d = .int i
/-- nothing else is changed -/
structure Same (μ μ' : Sto) (n m : Nat) : Prop where
  len : μ'.length = μ.length
  get : ∀ j, j ≠ n → j ≠ m → μ'[j]? = μ[j]?
theorem Same.refl {μ : Sto} {n m : Nat} : Same μ μ n m := ⟨rfl, fun _ _ _ => rfl⟩
theorem Same.trans {μ μ' μ'' : Sto} {n m : Nat} (a : Same μ μ' n m) (b : Same μ' μ'' n m) : Same μ μ'' n m := ⟨b.len.trans a.len, fun j h1 h2 => (b.get j h1 h2).trans (a.get j h1 h2)⟩
theorem Same.set {μ : Sto} {n m j : Nat} {c : Cell} (h : j = n ∨ j = m) : Same μ (μ.set j c) n m := ⟨by simp, fun i h1 h2 => by
  rw [List.getElem?_set_ne]
  rintro rfl
  rcases h with h | h
  · exact h1 h
  · exact h2 h⟩
theorem log_lt {a : Int} {k : Nat} (h : a.natAbs < 2 ^ k) (hk : 0 < k) : a.natAbs.log2 < k := by
  by_cases h0 : a.natAbs = 0
  · rw [h0]; exact hk
  · exact (Nat.log2_lt h0).mpr h
theorem mul_ok {a b : Int} (ha : a.natAbs < 2 ^ 200) (hb : b.natAbs < 2 ^ 200) : a.natAbs.log2 + b.natAbs.log2 < 1000000 := by
  have h1 := log_lt ha (by decide)
  have h2 := log_lt hb (by decide)
  omega
section
variable {C : Calls} {g : List D} {μ : Sto} {Q : RV → Sto → Prop} {n m : Nat}
theorem ok_idxK {kvs : List (Key × D)} {k : Key} {d i : D} (h : μ[n]? = some (.dct kvs)) (hk : keyD i = some k) (hf : findK kvs k = some d) (q : Q (.v d) μ) : Ok (idxM (.ref n) i) μ Q :=
  ⟨_, μ, by unfold idxM; simp only [h, hk, Option.bind_some, hf, Option.map_some], q⟩
theorem oks_putK {S : Flo → Sto → Prop} {ρ : Env} {kvs : List (Key × D)} {k : Key} {d i : D} (h : μ[n]? = some (.dct kvs)) (hk : keyD i = some k) (hl : kvs.length < sizeLine) (q : S (.nx ρ) (μ.set n (.dct (setK kvs k d)))) : OkS (putM ρ (.v (.ref n)) i d) μ S :=
  ⟨_, _, by unfold putM; simp only [h, hk, Option.bind_some, if_pos hl], trivial, q⟩
end
theorem small_line {n : Nat} (h : n ≤ 1000000) : n ≤ sizeLine := by rw [sizeLine_eq]; omega
theorem shp_int {a : Int} : shp (.int a) = true := rfl
theorem shp_bl {a : Bool} : shp (.bl a) = true := rfl
theorem shp_non : shp .non = true := rfl
theorem cmp_eq {a b : D} (h : shp a = true) (k : shp b = true) : cmpD .eq a b = some (eqD a b) := by simp only [cmpD, h, k, and_self, if_true]
theorem cmp_ne {a b : D} (h : shp a = true) (k : shp b = true) : cmpD .ne a b = some (!eqD a b) := by simp only [cmpD, h, k, and_self, if_true]
theorem eqD_int {a b : Int} : eqD (.int a) (.int b) = decide (a = b) := by simp only [eqD, D.py, PyData.eqv]; by_cases h : a = b <;> simp [h]
theorem cmp_eqi {a b : Int} : cmpD .eq (.int a) (.int b) = some (decide (a = b)) := by rw [cmp_eq shp_int shp_int, eqD_int]
theorem cmp_nei {a b : Int} : cmpD .ne (.int a) (.int b) = some (!decide (a = b)) := by rw [cmp_ne shp_int shp_int, eqD_int]
section
variable {C : Calls} {g : List D} {μ : Sto} {Q : RV → Sto → Prop} {n m : Nat}
theorem ok_lenC {ds : List D} (h : μ[m]? = some (.lst ds)) (q : Q (.v (.int ds.length)) μ) : Ok (bltM .len [.ref m]) μ Q := ⟨_, μ, by unfold bltM; simp only [h], q⟩
theorem ok_chkL {P : Unit → Sto → Prop} {ds : List D} (h : μ[m]? = some (.lst ds)) (q : P () μ) : Ok (chkM .pop (.ref m)) μ P := ⟨_, μ, by unfold chkM; simp only [h], q⟩
theorem ok_pop {ds : List D} {x : D} (h : μ[m]? = some (.lst ds)) (hx : ds.getLast? = some x) (q : Q (.v x) (μ.set m (.lst ds.dropLast))) : Ok (methM .pop (.ref m) []) μ Q := ⟨_, _, by unfold methM; simp only [h, hx], q⟩
end
theorem draw_whl {C : Calls} {g : List D} {μ : Sto} {n m : Nat} {x y z w : Slot} (hd : Deal μ n m) : OkS (evalS C g (.whl drwC drwB) [.val (.ref n), x, y, z, w]) μ fun fl μ' => fl = .nx [.val (.ref n), x, y, z, w] ∧ Deal μ' n m ∧ Same μ μ' n m := by
  obtain ⟨ne, s, a, ds, h1, h2, h3, h4, h5, h6⟩ := hd
  refine oks_whl (I := fun j ρ μ' => ρ = [.val (.ref n), x, y, z, w] ∧ Same μ μ' n m ∧ ∃ a ds, μ'[n]? = some (.dct (dealD s a m)) ∧ μ'[m]? = some (.lst ds) ∧ ds.length = j ∧ j ≤ 64 ∧ ∀ d ∈ ds, ∃ i, d = .int i) (n := ds.length) (by unfold fuelW; omega) ⟨rfl, Same.refl, a, ds, h1, h2, rfl, h5, h6⟩ ?_
  clear h1 h2 h5 h6 ds a
  rintro j ρ μ' ⟨rfl, hs, a, ds, h1, h2, rfl, h5, h6⟩
  unfold drwC
  rw [evalT_and, ok_bind, evalT_cmp, ok_bind]
  simp only [evalE, List.getElem?_cons_zero, ok_bind, ok_pure]
  refine ok_idxK h1 rfl find_number ?_
  simp only [RV.d, litD, cmp_eqi, ok_some]
  by_cases h0 : a = 0
  · simp only [h0, decide_true, if_true]
    rw [evalT_cmp, ok_bind]
    simp only [evalE, evalBs, List.getElem?_cons_zero, ok_bind, ok_pure]
    refine ok_idxK h1 rfl find_left ?_
    refine ok_lenC h2 ?_
    simp only [RV.d, litD, cmpD, ok_some]
    by_cases hl : (0 : Int) < ds.length
    · simp only [hl, decide_true, if_true]
      unfold drwB
      rw [oks_cons]
      simp only [evalS, oks_stE]
      rw [meth_eq0, ok_bind]
      simp only [evalE, evalBs, List.getElem?_cons_zero, ok_bind, ok_pure, oks_bind, oks_stE]
      refine ok_idxK h1 rfl find_left ?_
      simp only [RV.d]
      refine ok_chkL h2 ?_
      obtain ⟨x0, hx⟩ : ∃ x0, ds.getLast? = some x0 := by
        cases q : ds.getLast? with
        | none => rw [List.getLast?_eq_none_iff] at q; rw [q] at hl; simp at hl
        | some x0 => exact ⟨x0, rfl⟩
      obtain ⟨i, rfl⟩ := h6 x0 (List.mem_of_getLast? hx)
      refine ok_pop h2 hx ?_
      simp only [needV, RV.val, ok_some]
      have h1' : (μ'.set m (.lst ds.dropLast))[n]? = some (.dct (dealD s a m)) := by rw [List.getElem?_set_ne (Ne.symm ne)]; exact h1
      have hm : m < μ'.length := (List.getElem?_eq_some_iff.mp h2).1
      have hn : n < μ'.length := (List.getElem?_eq_some_iff.mp h1).1
      refine oks_putK h1' rfl (by show 3 < sizeLine; rw [sizeLine_eq]; omega) ?_
      show OkS (evalSs C g [] [.val (.ref n), x, y, z, w]) _ _
      rw [oks_nil]
      rw [show setK (dealD s a m) (Sum.inr (Str.ofString "number")) (.int i) = dealD s i m from set_number]
      refine ⟨ds.dropLast.length, by simp; omega, rfl, (hs.trans (Same.set (.inr rfl))).trans (Same.set (.inl rfl)), i, ds.dropLast, by rw [List.getElem?_set_self (by simpa using hn)], ?_, rfl, by simp; omega, fun d hd => h6 d (List.dropLast_subset _ hd)⟩
      rw [List.getElem?_set_ne ne, List.getElem?_set_self hm]
    · simp only [hl, decide_false, Bool.false_eq_true, if_false, ok_pure]
      exact ⟨trivial, ⟨ne, s, a, ds, h1, h2, h3, h4, h5, h6⟩, hs⟩
  · simp only [h0, decide_false, Bool.false_eq_true, if_false, ok_pure]
    exact ⟨trivial, ⟨ne, s, a, ds, h1, h2, h3, h4, h5, h6⟩, hs⟩
theorem mod_i {a b : Int} (h : 0 < b) : binD .mod (.int a) (.int b) = some (.v (.int (a % b))) := by simp only [binD, if_pos h]
theorem mul_i {a b : Int} (ha : a.natAbs < 2 ^ 200) (hb : b.natAbs < 2 ^ 200) : binD .mul (.int a) (.int b) = some (.v (.int (a * b))) := by simp only [binD, if_pos (mul_ok ha hb)]
theorem add_i {a b : Int} : binD .add (.int a) (.int b) = some (.v (.int (a + b))) := rfl
theorem sub_i {a b : Int} : binD .sub (.int a) (.int b) = some (.v (.int (a - b))) := rfl
theorem div_i {a b : Int} (h : 0 < b) (hb : b.natAbs < 2 ^ 200) : binD .fdiv (.int a) (.int b) = some (.v (.int (a / b))) := by
  simp only [binD]
  rw [if_pos ⟨h, by have := log_lt hb (by decide); omega⟩]
theorem abs_small {a : Int} {k : Nat} (h0 : 0 ≤ a) (h : a < k) (hk : k ≤ 2 ^ 200) : a.natAbs < 2 ^ 200 := by omega
theorem nat_small {a : Int} (h0 : 0 ≤ a) (h : a < 2 ^ 64) : a.natAbs < 2 ^ 200 := by
  have : a.natAbs < 2 ^ 64 := by omega
  exact Nat.lt_of_lt_of_le this (Nat.pow_le_pow_right (by decide) (by decide))
theorem draw_ok {Pr : List Fn} {g : List D} {k f : Nat} {μ : Sto} {n m : Nat} {many : Int} (e : Pr[f]? = some fnDraw) (hd : Deal μ n m) (h0 : 0 < many) (hm : many < 2 ^ 64) :
    Ok (callP Pr g (k + 1) f [.ref n, .int many]) μ fun rv μ' => ∃ r : Int, rv = .v (.int r) ∧ 0 ≤ r ∧ r < many ∧ Deal μ' n m ∧ Same μ μ' n m := by
  refine ok_call e rfl ?_
  show OkS (evalSs (callP Pr g k) g fnDraw.body [.val (.ref n), .val (.int many), .none, .none, .none]) μ _
  unfold fnDraw
  rw [oks_cons]
  refine (draw_whl hd).mono ?_
  rintro fl μ1 ⟨rfl, ⟨ne, s, a, ds, h1, h2, h3, h4, h5, h6⟩, hs⟩
  have hn : n < μ1.length := (List.getElem?_eq_some_iff.mp h1).1
  have hmany : many.natAbs < 2 ^ 200 := nat_small (by omega) hm
  have three : ∀ s a, (dealD s a m).length < sizeLine := fun s a => by show 3 < sizeLine; rw [sizeLine_eq]; omega
  simp only []
  rw [oks_cons]
  simp only [evalS, oks_stE, evalE, List.getElem?_cons_zero, ok_bind, ok_pure, oks_bind]
  refine ok_idxK h1 rfl find_number ?_
  simp only [needV, RV.val, ok_some, bindT, List.length_cons, List.length_nil, List.set_cons_succ, List.set_cons_zero]
  rw [if_pos (by decide)]
  simp only [ok_some, oks_nx]
  rw [oks_cons]
  simp only [evalS, oks_stE]
  rw [evalT_cmp, ok_bind]
  simp only [evalE, List.getElem?_cons_zero, List.getElem?_cons_succ, ok_bind, ok_pure, RV.d, litD, cmpD, ok_some]
  by_cases ha : 0 < a
  · simp only [ha, decide_true, if_true]
    rw [oks_cons]
    simp only [evalS, oks_stE, evalE, List.getElem?_cons_zero, List.getElem?_cons_succ, ok_bind, ok_pure, oks_bind, RV.d, div_i h0 hmany, ok_some, needV, RV.val, litD]
    refine oks_putK h1 rfl (three s a) ?_
    simp only []
    rw [oks_cons]
    simp only [evalS, oks_stE, evalE, List.getElem?_cons_zero, List.getElem?_cons_succ, ok_bind, ok_pure, oks_bind, RV.d, mod_i h0, ok_some, oks_rt, rtV]
    rw [show setK (dealD s a m) (Sum.inr (Str.ofString "number")) (.int (a / many)) = dealD s (a / many) m from set_number]
    refine ⟨a % many, rfl, Int.emod_nonneg _ (by omega), Int.emod_lt_of_pos _ h0, ⟨ne, s, _, ds, by rw [List.getElem?_set_self hn], by rw [List.getElem?_set_ne ne]; exact h2, h3, h4, h5, h6⟩, hs.trans (Same.set (.inl rfl))⟩
  · simp only [ha, decide_false, Bool.false_eq_true, if_false]
    rw [oks_nil]
    simp only []
    rw [oks_cons]
    simp only [evalS, oks_stE, evalE, List.getElem?_cons_zero, List.getElem?_cons_succ, ok_bind, ok_pure, oks_bind]
    refine ok_idxK h1 rfl find_seed ?_
    have b1 : (s * 48271 : Int) ≥ 0 := Int.mul_nonneg h3 (by decide)
    simp only [RV.d, litD, mul_i (a := s) (b := 48271) (nat_small h3 (by omega)) (nat_small (by decide) (by decide)), ok_some, add_i, mod_i (b := 2147483647) (by decide), needV, RV.val, bindT, List.length_cons, List.length_nil, List.set_cons_succ, List.set_cons_zero]
    rw [if_pos (by decide)]
    simp only [ok_some, oks_nx]
    generalize hx : (s * 48271 + 7919) % 2147483647 = x
    have x0 : 0 ≤ x := by rw [← hx]; exact Int.emod_nonneg _ (by decide)
    have x1 : x < 2147483647 := by rw [← hx]; exact Int.emod_lt_of_pos _ (by decide)
    rw [oks_cons]
    simp only [evalS, oks_stE, evalE, List.getElem?_cons_zero, List.getElem?_cons_succ, ok_bind, ok_pure, oks_bind, RV.d, litD, mul_i (a := x) (b := 40692) (nat_small x0 (by omega)) (nat_small (by decide) (by decide)), ok_some, add_i, mod_i (b := 2147483399) (by decide), needV, RV.val]
    refine oks_putK h1 rfl (three s a) ?_
    generalize hs2 : (x * 40692 + 104729) % 2147483399 = s2
    have s0 : 0 ≤ s2 := by rw [← hs2]; exact Int.emod_nonneg _ (by decide)
    have s1 : s2 < 2147483399 := by rw [← hs2]; exact Int.emod_lt_of_pos _ (by decide)
    rw [show setK (dealD s a m) (Sum.inr (Str.ofString "seed")) (.int s2) = dealD s2 a m from set_seed]
    simp only []
    have h1' : (μ1.set n (.dct (dealD s2 a m)))[n]? = some (.dct (dealD s2 a m)) := List.getElem?_set_self hn
    rw [oks_cons]
    simp only [evalS, oks_stE, evalE, List.getElem?_cons_zero, List.getElem?_cons_succ, ok_bind, ok_pure, oks_bind]
    refine ok_idxK h1' rfl find_seed ?_
    refine ok_idxK h1' rfl find_seed ?_
    simp only [RV.d, litD, mul_i (a := s2) (b := s2) (nat_small s0 (by omega)) (nat_small s0 (by omega)), ok_some, mod_i (b := 2147483563) (by decide), needV, RV.val, bindT, List.length_cons, List.length_nil, List.set_cons_succ, List.set_cons_zero]
    rw [if_pos (by decide)]
    simp only [ok_some, oks_nx]
    generalize hy : s2 * s2 % 2147483563 = y
    have xx : 0 ≤ x * x % 2147483629 := Int.emod_nonneg _ (by decide)
    have xx1 : x * x % 2147483629 < 2147483629 := Int.emod_lt_of_pos _ (by decide)
    rw [oks_cons]
    simp only [evalS, oks_stE, evalE, List.getElem?_cons_zero, List.getElem?_cons_succ, ok_bind, ok_pure, oks_bind, RV.d, litD, mul_i (a := x) (b := x) (nat_small x0 (by omega)) (nat_small x0 (by omega)), ok_some, mod_i (b := 2147483629) (by decide),
      mul_i (a := x * x % 2147483629) (b := 2147483563) (nat_small xx (by omega)) (nat_small (by decide) (by decide)), add_i, mod_i h0, oks_rt, rtV]
    exact ⟨_, rfl, Int.emod_nonneg _ (by omega), Int.emod_lt_of_pos _ h0, ⟨ne, s2, a, ds, h1', by rw [List.getElem?_set_ne ne]; exact h2, s0, by omega, h5, h6⟩, hs.trans (Same.set (.inl rfl))⟩
end J
/-! the deal. -/
namespace J
open PySem L2
section
variable {C : Calls} {g : List D} {μ : Sto}
/-- a comprehension, nothing of it hanging on the store -/
theorem ok_compP {own : List Nat} {t : T} {it : E} {co : Option E} {e : E} {ρ : Env} {Q : RV → Sto → Prop} {h : D → Option D}
    (w : Ok (evalW C g it ρ) μ fun ds μ1 => ds.length ≤ sizeLine ∧ (∀ d ∈ ds, Ok (compF C g own t co e ρ d) μ1 fun o μ2 => o = h d ∧ μ2 = μ1) ∧ Q (.fr (ds.filterMap h)) μ1) : Ok (evalE C g (.comp own t it co e) ρ) μ Q := by
  rw [comp_eq, ok_bind]
  refine w.mono fun ds μ1 ⟨hl, hf, q⟩ => ?_
  rw [ok_bind, ok_noex]
  refine ⟨ds.filterMap h, μ1, items_pure fun d hd => ?_, ?_⟩
  · obtain ⟨o, μ2, e1, rfl, rfl⟩ := hf d hd
    exact e1
  · show Ok (if _ then _ else _) μ1 Q
    rw [if_pos ⟨Nat.le_trans (List.length_filterMap_le _ _) hl, hl⟩]
    exact ok_pure.mpr q
theorem ok_compF {own : List Nat} {t : T} {co : Option E} {e : E} {ρ ρ1 : Env} {d : D} {Q : Option D → Sto → Prop} (hb : bindT t d (wipeS ρ own) = some ρ1)
    (h : Ok (evalC C g co ρ1) μ fun k μ1 => if k = true then Ok (evalE C g e ρ1) μ1 fun y μ2 => ∃ d, y.val = some d ∧ Q (some d) μ2 else Q none μ1) : Ok (compF C g own t co e ρ d) μ Q := by
  unfold compF
  rw [hb]
  simp only [ok_bind]
  refine h.mono fun k μ1 q => ?_
  cases k with
  | true =>
    rw [if_pos rfl] at q ⊢
    rw [ok_bind]
    refine q.mono fun y μ2 ⟨d, e1, q⟩ => ?_
    rw [ok_bind]
    exact ok_oM e1 (ok_pure.mpr q)
  | false =>
    rw [if_neg Bool.false_ne_true] at q ⊢
    exact ok_pure.mpr q
/-- a comprehension, by an invariant of the store -/
theorem ok_compI {own : List Nat} {t : T} {it : E} {co : Option E} {e : E} {ρ : Env} {Q : RV → Sto → Prop} {I : Sto → Prop} {R : D → Option D → Prop}
    (w : Ok (evalW C g it ρ) μ fun ds μ1 => ds.length ≤ sizeLine ∧ I μ1 ∧ (∀ d ∈ ds, ∀ μ1, I μ1 → Ok (compF C g own t co e ρ d) μ1 fun o μ2 => I μ2 ∧ R d o) ∧ ∀ os μ2, I μ2 → All2 R ds os → Q (.fr (os.filterMap id)) μ2) : Ok (evalE C g (.comp own t it co e) ρ) μ Q := by
  rw [comp_eq, ok_bind]
  refine w.mono fun ds μ1 ⟨hl, i, hf, q⟩ => ?_
  rw [ok_bind, ok_noex]
  refine (ok_items hf i).mono ?_
  rintro r μ2 ⟨i2, os, ht, rfl⟩
  have hle : (os.filterMap id).length ≤ ds.length := Nat.le_trans (List.length_filterMap_le _ _) (by
    clear q hf hl
    have : ∀ {ds : List D} {os : List (Option D)}, All2 R ds os → os.length ≤ ds.length := fun {ds os} ht => by
      induction ht with
      | nil => exact Nat.le_refl _
      | cons _ _ ih => exact Nat.succ_le_succ ih
    exact this ht)
  show Ok (if _ then _ else _) μ2 Q
  rw [if_pos ⟨Nat.le_trans hle hl, hl⟩]
  exact ok_pure.mpr (q os μ2 i2 ht)
theorem ok_W {it : E} {ρ : Env} {P : List D → Sto → Prop} (h : Ok (evalE C g it ρ) μ fun x μ1 => ∃ d ds, x.val = some d ∧ walkD d = some ds ∧ P ds μ1) : Ok (evalW C g it ρ) μ P := by
  unfold evalW
  rw [ok_bind]
  refine h.mono fun x μ1 ⟨d, ds, e1, e2, p⟩ => ?_
  cases x with
  | v d' => cases e1; exact ok_oM e2 p
  | fr ds' => cases e1; exact ok_oM e2 p
  | bo i ds' => cases e1
end
theorem ok_dct {C : Calls} {g : List D} {μ : Sto} {ks : List Key} {es : List E} {ρ : Env} {Q : RV → Sto → Prop} (hn : ks.Nodup) (hl : ks.length ≤ 15) (h : Ok (evalEs C g es ρ) μ fun ds μ1 => ds.length = ks.length ∧ Q (.v (.ref μ1.length)) (μ1 ++ [.dct (ks.zip ds)])) : Ok (evalE C g (.dct ks es) ρ) μ Q := by
  simp only [evalE, ok_bind]
  refine h.mono fun ds μ1 ⟨e, q⟩ => ?_
  rw [if_pos ⟨e, hl, hn⟩, ok_bind]
  exact ⟨_, _, rfl, ok_pure.mpr q⟩
theorem ok_es {C : Calls} {g : List D} {μ : Sto} {e : E} {es : List E} {ρ : Env} {P : List D → Sto → Prop} : Ok (evalEs C g (e :: es) ρ) μ P ↔ Ok (evalE C g e ρ) μ fun x μ1 => Ok (needV x) μ1 fun d μ2 => Ok (evalEs C g es ρ) μ2 fun ds μ3 => P (d :: ds) μ3 := by
  simp only [evalEs, ok_bind, ok_pure]
theorem ok_es0 {C : Calls} {g : List D} {μ : Sto} {ρ : Env} {P : List D → Sto → Prop} : Ok (evalEs C g [] ρ) μ P ↔ P [] μ := by
  simp only [evalEs, ok_pure]
theorem ok_cell {C : Calls} {g : List D} {μ : Sto} {e : E} {ρ : Env} {Q : RV → Sto → Prop} (h : Ok (evalE C g e ρ) μ fun x μ1 => ∃ ds, x = .fr ds ∧ Q (.v (.ref μ1.length)) (μ1 ++ [.lst ds])) : Ok (evalE C g (.cell e) ρ) μ Q := by
  simp only [evalE, ok_bind]
  refine h.mono ?_
  rintro x μ1 ⟨ds, rfl, q⟩
  simp only [ok_bind]
  exact ⟨_, _, rfl, ok_pure.mpr q⟩
theorem ok_rev {C : Calls} {g : List D} {μ : Sto} {e : E} {ρ : Env} {Q : RV → Sto → Prop} (h : Ok (evalE C g e ρ) μ fun x μ1 => ∃ ds, x.d = .lst ds ∧ Q (.fr ds.reverse) μ1) : Ok (evalE C g (.rev e) ρ) μ Q := by
  simp only [evalE, ok_bind]
  refine h.mono ?_
  rintro x μ1 ⟨ds, e1, q⟩
  rw [e1]
  exact ok_pure.mpr q
/-- a built-in function that looks at no cell -/
theorem ok_bltM {b : Blt} {ds : List D} {μ : Sto} {a : RV} {Q : RV → Sto → Prop} (h : bltM b ds μ = oM (bltD b ds) μ) (e : bltD b ds = some a) (q : Q a μ) : Ok (bltM b ds) μ Q := ⟨a, μ, by rw [h, e]; rfl, q⟩
theorem cutD_length {α : Type} {xs : List α} {lo hi : Option Int} : (cutD xs lo hi).length ≤ xs.length := by
  unfold cutD
  rw [List.length_take, List.length_drop]
  omega
theorem cutD_mem {α : Type} {xs : List α} {lo hi : Option Int} {x : α} (h : x ∈ cutD xs lo hi) : x ∈ xs := List.drop_subset _ _ (List.take_subset _ _ h)
theorem deal_ok {Pr : List Fn} {g : List D} {k f : Nat} {μ : Sto} {ns : List Int} {base : Int} (e : Pr[f]? = some fnDeal) (hb : 0 ≤ base) (hb1 : base < 2 ^ 20) (hl : ns.length ≤ 63) :
    Ok (callP Pr g (k + 1) f [.src ns, .int base]) μ fun rv μ' => rv = .v (.ref (μ.length + 1)) ∧ Deal μ' (μ.length + 1) μ.length ∧ μ'.length = μ.length + 2 ∧ ∀ j, j < μ.length → μ'[j]? = μ[j]? := by
  refine ok_call e rfl ?_
  show OkS (evalSs (callP Pr g k) g fnDeal.body [.val (.src ns), .val (.int base), .none, .none, .none]) μ _
  unfold fnDeal
  rw [oks_cons]
  simp only [evalS, oks_stE]
  refine ok_compP (h := fun d => match d with | .int i => some (.int (if 0 - i > i then 0 - i else i)) | _ => none) (ok_W ?_)
  simp only [evalE, evalO, List.getElem?_cons_zero, List.getElem?_cons_succ, ok_bind, ok_pure, RV.d, litD, intO, ok_some, slcD]
  refine ⟨_, _, rfl, rfl, ?_⟩
  generalize hc : cutD (ns.map D.int) (some base) (some 63) = cs
  have c1 : cs.length ≤ 63 := by rw [← hc]; exact Nat.le_trans cutD_length (by simpa using hl)
  have c2 : ∀ d ∈ cs, ∃ i, d = .int i := fun d hd => by
    rw [← hc] at hd
    obtain ⟨i, _, rfl⟩ := List.mem_map.mp (cutD_mem hd)
    exact ⟨i, rfl⟩
  refine ⟨small_line (by omega), fun d hd => ?_, ?_⟩
  · obtain ⟨i, rfl⟩ := c2 d hd
    refine ok_compF rfl ?_
    simp only [wipeS, List.set_cons_succ, List.set_cons_zero, evalC, evalE, evalBs, ok_bind, ok_pure, if_true, List.getElem?_cons_zero, List.getElem?_cons_succ, RV.d, litD, sub_i, ok_some]
    refine ok_bltM (b := .max2) (ds := [.int i, .int (0 - i)]) (a := RV.v (.int (if 0 - i > i then 0 - i else i))) rfl rfl ?_
    exact ⟨_, rfl, rfl, rfl⟩
  · generalize hx : cs.filterMap (fun d => match d with | .int i => some (D.int (if 0 - i > i then 0 - i else i)) | _ => none) = xs
    have x1 : xs.length ≤ 63 := by rw [← hx]; exact Nat.le_trans (List.length_filterMap_le _ _) c1
    have x2 : ∀ d ∈ xs, ∃ i, d = .int i := fun d hd => by
      rw [← hx, List.mem_filterMap] at hd
      obtain ⟨d', h1, h2⟩ := hd
      obtain ⟨i, rfl⟩ := c2 d' h1
      cases h2
      exact ⟨_, rfl⟩
    simp only [oks_bind, needV, RV.val, ok_some, bindT, List.length_cons, List.length_nil, List.set_cons_succ, List.set_cons_zero]
    rw [if_pos (by decide)]
    simp only [ok_some, oks_nx]
    rw [oks_cons]
    simp only [evalS, oks_stE, evalE, List.getElem?_cons_zero, List.getElem?_cons_succ, ok_bind, ok_pure, RV.d, litD, add_i, ok_some, oks_bind, needV, RV.val, bindT, List.length_cons, List.length_nil, List.set_cons_succ, List.set_cons_zero]
    rw [if_pos (by decide)]
    simp only [ok_some, oks_nx]
    rw [oks_cons, fors_eq, oks_stE]
    refine ok_W ?_
    simp only [evalE, List.getElem?_cons_zero, List.getElem?_cons_succ, ok_pure]
    refine ⟨_, _, rfl, rfl, ?_⟩
    refine oks_each (I := fun r ρ μ1 => μ1 = μ ∧ (∀ d ∈ r, ∃ i, d = D.int i) ∧ ∃ y num, ρ = [.val (.src ns), .val (.int base), .val (.lst xs), y, .val (.int num)] ∧ 0 ≤ num ∧ num < 2 ^ 32) ?_ ?_ ⟨rfl, x2, _, _, rfl, by omega, by omega⟩
    · rintro d r ρ μ1 ⟨rfl, hr, y, num, rfl, n0, n1⟩
      obtain ⟨i, rfl⟩ := hr d List.mem_cons_self
      simp only [oks_bind, bindT, List.length_cons, List.length_nil, List.set_cons_succ, List.set_cons_zero]
      rw [if_pos (by decide)]
      simp only [ok_some]
      rw [oks_cons]
      simp only [evalS, oks_stE, evalE, List.getElem?_cons_zero, List.getElem?_cons_succ, ok_bind, ok_pure, RV.d, litD, mul_i (a := num) (b := 48271) (nat_small n0 (by omega)) (nat_small (by decide) (by decide)), mod_i (b := 2147483629) (by decide), add_i,
        mod_i (b := 2147483647) (by decide), ok_some, oks_bind, needV, RV.val, bindT, List.length_cons, List.length_nil, List.set_cons_succ, List.set_cons_zero]
      rw [if_pos (by decide)]
      simp only [ok_some, oks_nx]
      rw [oks_nil]
      have q1 : ∀ z : Int, 0 ≤ z % 2147483647 := fun z => Int.emod_nonneg _ (by decide)
      have q2 : ∀ z : Int, z % 2147483647 < 2147483647 := fun z => Int.emod_lt_of_pos _ (by decide)
      exact ⟨rfl, fun d hd => hr d (List.mem_cons_of_mem _ hd), _, _, rfl, q1 _, by have := q2 (num * 48271 + i % 2147483629); omega⟩
    · rintro ρ μ1 ⟨rfl, -, y, num, rfl, n0, n1⟩
      simp only []
      rw [oks_cons]
      simp only [evalS, oks_stE]
      refine ok_dct (by decide +kernel) (by decide) ?_
      rw [ok_es]
      simp only [evalE, List.getElem?_cons_zero, List.getElem?_cons_succ, ok_pure, needV, RV.val, ok_some]
      rw [ok_es]
      simp only [evalE, ok_pure, needV, RV.val, ok_some, litD]
      rw [ok_es]
      refine ok_cell (ok_rev (ok_compP (h := fun d => match d with | .int i => if decide (i ≥ (10 : Int) ^ 18) = true then some (.int i) else none | _ => none) (ok_W ?_)))
      simp only [evalE, List.getElem?_cons_zero, List.getElem?_cons_succ, ok_pure]
      refine ⟨_, _, rfl, rfl, small_line (by omega), fun d hd => ?_, ?_⟩
      · obtain ⟨i, rfl⟩ := x2 d hd
        refine ok_compF rfl ?_
        simp only [wipeS, List.set_cons_succ, List.set_cons_zero, evalC, evalE, ok_bind, ok_pure, List.getElem?_cons_zero, List.getElem?_cons_succ, RV.d, litD]
        refine ok_oM (a := RV.v (.int (10 ^ 18))) (by
          show (if (0 : Int) ≤ 18 ∧ (18 : Int) ≤ 1000000 ∧ (10 : Int).natAbs < 2 ^ 64 then some (RV.v (D.int (10 ^ (18 : Int).toNat))) else none) = _
          rw [if_pos ⟨by decide, by decide, by decide⟩]; rfl) ?_
        simp only [RV.d, cmpD, Option.map_some, ok_some, truD]
        by_cases hi : (10 : Int) ^ 18 ≤ i
        · rw [if_pos (by simpa using hi)]
          exact ⟨_, rfl, by rw [if_pos (by simpa using hi)], trivial⟩
        · rw [if_neg (by simpa using hi)]
          exact ⟨by rw [if_neg (by simpa using hi)], trivial⟩
      · generalize hy : xs.filterMap (fun d => match d with | .int i => if decide (i ≥ (10 : Int) ^ 18) = true then some (D.int i) else none | _ => none) = ys
        have y1 : ys.length ≤ 63 := by rw [← hy]; exact Nat.le_trans (List.length_filterMap_le _ _) x1
        have y2 : ∀ d ∈ ys, ∃ i, d = .int i := fun d hd => by
          rw [← hy, List.mem_filterMap] at hd
          obtain ⟨d', h1, h2⟩ := hd
          obtain ⟨i, rfl⟩ := x2 d' h1
          by_cases hi : i ≥ (10 : Int) ^ 18
          · simp only [hi, decide_true, if_true, Option.some.injEq] at h2; exact ⟨i, h2.symm⟩
          · simp only [hi, decide_false, Bool.false_eq_true, if_false] at h2; cases h2
        refine ⟨ys, rfl, ys.reverse, rfl, ?_⟩
        simp only [needV, RV.val, ok_some]
        rw [ok_es0]
        refine ⟨rfl, ?_⟩
        simp only [oks_rt, rtV, List.length_append, List.length_singleton]
        refine ⟨trivial, ⟨by omega, num, 0, ys.reverse, ?_, ?_, n0, n1, by simp; omega, fun d hd => y2 d (by simpa using hd)⟩, trivial, fun j hj => ?_⟩
        · rw [List.getElem?_append_right (by simp)]
          simp
          rfl
        · rw [List.getElem?_append_left (by simp), List.getElem?_append_right (Nat.le_refl _)]
          simp
        · rw [List.getElem?_append_left (by simp; omega), List.getElem?_append_left hj]
section
variable {C : Calls} {g : List D} {μ : Sto} {ρ : Env} {Q : RV → Sto → Prop} {f : Nat} {a b : E}
theorem ok_call0 : Ok (evalE C g (.call f []) ρ) μ Q ↔ Ok (C f []) μ Q := by
  simp only [evalE, evalEs, ok_bind, ok_pure, ok_noex]
theorem ok_call1 : Ok (evalE C g (.call f [a]) ρ) μ Q ↔ Ok (evalE C g a ρ) μ fun x μ1 => Ok (needV x) μ1 fun d μ2 => Ok (C f [d]) μ2 Q := by
  simp only [evalE, evalEs, ok_bind, ok_pure]
theorem ok_call2 : Ok (evalE C g (.call f [a, b]) ρ) μ Q ↔ Ok (evalE C g a ρ) μ fun x μ1 => Ok (needV x) μ1 fun d μ2 => Ok (evalE C g b ρ) μ2 fun y μ3 => Ok (needV y) μ3 fun e μ4 => Ok (C f [d, e]) μ4 Q := by
  simp only [evalE, evalEs, ok_bind, ok_pure]
theorem ok_draw {Pr : List Fn} {k : Nat} {n m : Nat} {many : Int} (e : Pr[f]? = some fnDraw) (hd : Deal μ n m) (h0 : 0 < many) (hm : many < 2 ^ 64) (h : ∀ r μ', 0 ≤ r → r < many → Deal μ' n m → Same μ μ' n m → Q (.v (.int r)) μ') : Ok (callP Pr g (k + 1) f [.ref n, .int many]) μ Q :=
  (draw_ok e hd h0 hm).mono fun rv μ' ⟨r, e1, h1, h2, h3, h4⟩ => by rw [e1]; exact h r μ' h1 h2 h3 h4
/-- a draw in an expression: the deal in a slot, a number -/
theorem ok_drawE {Pr : List Fn} {k : Nat} {n m i : Nat} {many : Int} (e : Pr[f]? = some fnDraw) (hi : ρ[i]? = some (.val (.ref n))) (hd : Deal μ n m) (h0 : 0 < many) (hm : many < 2 ^ 64) (h : ∀ r μ', 0 ≤ r → r < many → Deal μ' n m → Same μ μ' n m → Q (.v (.int r)) μ') :
    Ok (evalE (callP Pr g (k + 1)) g (.call f [.var i, .lit (.int many)]) ρ) μ Q := by
  rw [ok_call2]
  simp only [evalE, hi, ok_pure, needV, RV.val, ok_some, litD]
  exact ok_draw e hd h0 hm h
end
theorem ok_litE {C : Calls} {g : List D} {l : Lit} {ρ : Env} {μ : Sto} {Q : RV → Sto → Prop} : Ok (evalE C g (.lit l) ρ) μ Q ↔ Q (.v (litD l)) μ := by
  simp only [evalE, ok_pure]
theorem ok_binE {C : Calls} {g : List D} {o : BOp} {a b : E} {ρ : Env} {μ : Sto} {Q : RV → Sto → Prop} : Ok (evalE C g (.bin o a b) ρ) μ Q ↔ Ok (evalE C g a ρ) μ fun x μ1 => Ok (evalE C g b ρ) μ1 fun y μ2 => Ok (oM (binD o x.d y.d)) μ2 Q := by
  simp only [evalE, ok_bind]
theorem ok_lstE {C : Calls} {g : List D} {es : List E} {ρ : Env} {μ : Sto} {Q : RV → Sto → Prop} (h : Ok (evalEs C g es ρ) μ fun ds μ1 => ds.length ≤ sizeLine ∧ Q (.fr ds) μ1) : Ok (evalE C g (.lst es) ρ) μ Q := by
  simp only [evalE, ok_bind]
  refine h.mono fun ds μ1 ⟨hl, q⟩ => ?_
  rw [if_pos hl]
  exact ok_pure.mpr q

theorem ok_varE {C : Calls} {g : List D} {i : Nat} {d : D} {ρ : Env} {μ : Sto} {Q : RV → Sto → Prop} (h : ρ[i]? = some (.val d)) : Ok (evalE C g (.var i) ρ) μ Q ↔ Q (.v d) μ := by
  simp only [evalE, h, ok_pure]
theorem lenL {ds : List D} : bltD .len [.lst ds] = some (.v (.int ds.length)) := rfl
theorem lenB {x : Str} (h : x.length ≤ sizeLine) : bltD .len [.str x] = some (.v (.int x.length)) := by simp only [bltD, if_pos h]
theorem add_lst {a b : List D} (h : a.length + b.length ≤ sizeLine) : binD .add (.lst a) (.lst b) = some (.fr (a ++ b)) := by simp only [binD, if_pos h]
theorem slc_lst {ds : List D} {lo hi : Option Int} : slcD (.lst ds) lo hi = some (.fr (cutD ds lo hi)) := rfl
end J
namespace Q
open PySem L2 PySem.Spec PyProof.Rows J
def top (i : Nat) : Stmt := PySem.Challenge.pw_dueworth_k04_less_and_whole.main.body.getD i (.Pass ⟨0, 0, 0, 0⟩)
/-- less -/
def f_less : Fn := ⟨2, 2, [.ret (.cmp .lt (.bin .mul (.idx (.var 0) (.lit (.int 0))) (.idx (.var 1) (.lit (.int 1)))) (.bin .mul (.idx (.var 1) (.lit (.int 0))) (.idx (.var 0) (.lit (.int 1)))))]⟩
def d_less : DS := ⟨"less", ["one", "other"], ["one", "other"], defArgs (top 1), defBody (top 1), defScope (top 1), f_less⟩
/-- whole -/
def f_whole : Fn := ⟨1, 1, [.ret (.bin .fdiv (.idx (.var 0) (.lit (.int 0))) (.idx (.var 0) (.lit (.int 1))))]⟩
def d_whole : DS := ⟨"whole", ["one"], ["one"], defArgs (top 2), defBody (top 2), defScope (top 2), f_whole⟩
/-- _law_deal -/
def f_law_deal : Fn := ⟨2, 5, [.asg (.nm 2) (.comp [3] (.nm 3) (.slc (.var 0) (some (.var 1)) (some (.lit (.int 63)))) none (.blt .max2 [(.var 3), (.bin .sub (.lit (.int 0)) (.var 3))])), .asg (.nm 4) (.bin .add (.lit (.int 7919)) (.var 1)), .fors (.nm 3) (.var 2) [.asg (.nm 4) (.bin .mod (.bin .add (.bin .mul (.var 4) (.lit (.int 48271))) (.bin .mod (.var 3) (.lit (.int 2147483629)))) (.lit (.int 2147483647)))],
    .ret (.dct [.inr "seed", .inr "number", .inr "left"] [(.var 4), (.lit (.int 0)), (.cell (.rev (.comp [3] (.nm 3) (.var 2) (some (.cmp .ge (.var 3) (.bin .pow (.lit (.int 10)) (.lit (.int 18))))) (.var 3))))])]⟩
def d_law_deal : DS := ⟨"_law_deal", ["_law_script", "_law_base", "_law_some", "_law_one", "_law_number"], ["_law_script", "_law_base"], defArgs (top 4), defBody (top 4), defScope (top 4), f_law_deal⟩
/-- _law_draw -/
def f_law_draw : Fn := ⟨2, 5, [.whl (.and (.cmp .eq (.idx (.var 0) (.lit (.str "number"))) (.lit (.int 0))) (.cmp .gt (.blt .len [(.idx (.var 0) (.lit (.str "left")))]) (.lit (.int 0)))) [.put (.var 0) (.lit (.str "number")) (.meth .pop (.idx (.var 0) (.lit (.str "left"))) [])],
    .asg (.nm 2) (.idx (.var 0) (.lit (.str "number"))), .ifs (.cmp .gt (.var 2) (.lit (.int 0))) [.put (.var 0) (.lit (.str "number")) (.bin .fdiv (.var 2) (.var 1)), .ret (.bin .mod (.var 2) (.var 1))] [],
    .asg (.nm 3) (.bin .mod (.bin .add (.bin .mul (.idx (.var 0) (.lit (.str "seed"))) (.lit (.int 48271))) (.lit (.int 7919))) (.lit (.int 2147483647))), .put (.var 0) (.lit (.str "seed")) (.bin .mod (.bin .add (.bin .mul (.var 3) (.lit (.int 40692))) (.lit (.int 104729))) (.lit (.int 2147483399))), .asg (.nm 4) (.bin .mod (.bin .mul (.idx (.var 0) (.lit (.str "seed"))) (.idx (.var 0) (.lit (.str "seed")))) (.lit (.int 2147483563))), .ret (.bin .mod (.bin .add (.bin .mul (.bin .mod (.bin .mul (.var 3) (.var 3)) (.lit (.int 2147483629))) (.lit (.int 2147483563))) (.var 4)) (.var 1))]⟩
def d_law_draw : DS := ⟨"_law_draw", ["_law_deal_here", "_law_many", "_law_number", "_law_one", "_law_other"], ["_law_deal_here", "_law_many"], defArgs (top 5), defBody (top 5), defScope (top 5), f_law_draw⟩
/-- _law_lowest -/
def f_law_lowest : Fn := ⟨2, 4, [.ifs (.cmp .lt (.var 1) (.lit (.int 0))) [.par2 0 1 (.bin .sub (.lit (.int 0)) (.var 0)) (.bin .sub (.lit (.int 0)) (.var 1))] [], .par2 2 3 (.blt .max2 [(.var 0), (.bin .sub (.lit (.int 0)) (.var 0))]) (.var 1), .whl (.cmp .gt (.var 3) (.lit (.int 0))) [.par2 2 3 (.var 3) (.bin .mod (.var 2) (.var 3))], .ret (.tup [(.bin .fdiv (.var 0) (.var 2)), (.bin .fdiv (.var 1) (.var 2))])]⟩
def d_law_lowest : DS := ⟨"_law_lowest", ["_law_top", "_law_bottom", "_law_one", "_law_other"], ["_law_top", "_law_bottom"], defArgs (top 6), defBody (top 6), defScope (top 6), f_law_lowest⟩
/-- _law_fraction -/
def f_law_fraction : Fn := ⟨1, 3, [.asg (.nm 1) (.bin .add (.lit (.int 1)) (.call 3 [(.var 0), (.idx (.lst [(.lit (.int 1)), (.lit (.int 4)), (.lit (.int 1000))]) (.call 3 [(.var 0), (.lit (.int 3))]))])), .asg (.nm 2) (.call 3 [(.var 0), (.idx (.lst [(.lit (.int 4)), (.lit (.int 30)), (.lit (.int 1000001))]) (.call 3 [(.var 0), (.lit (.int 3))]))]), .ret (.call 4 [(.bin .mul (.var 2) (.idx (.lst [(.lit (.int 1)), (.bin .sub (.lit (.int 0)) (.lit (.int 1)))]) (.call 3 [(.var 0), (.lit (.int 2))]))), (.var 1)])]⟩
def d_law_fraction : DS := ⟨"_law_fraction", ["_law_deal_here", "_law_bottom", "_law_top"], ["_law_deal_here"], defArgs (top 7), defBody (top 7), defScope (top 7), f_law_fraction⟩
/-- _law_whole -/
def f_law_whole : Fn := ⟨1, 3, [.asg (.tp [(.nm 1), (.nm 2)]) (.var 0), .ret (.bin .fdiv (.bin .sub (.var 1) (.bin .mod (.var 1) (.var 2))) (.var 2))]⟩
def d_law_whole : DS := ⟨"_law_whole", ["_law_one", "_law_top", "_law_bottom"], ["_law_one"], defArgs (top 8), defBody (top 8), defScope (top 8), f_law_whole⟩
/-- law -/
def f_law : Fn := ⟨1, 9, [.asg (.nm 1) (.call 2 [(.var 0), (.lit (.int 0))]), .own 2 (.comp [3] (.nm 3) (.irng (.lit (.int 6))) none (.call 5 [(.var 1)])), .asg (.tp [(.nm 4), (.nm 5)]) (.idx (.var 2) (.lit (.int 0))), .app (.var 2) (.ite (.and (.cmp .eq (.call 4 [(.var 4), (.bin .add (.var 5) (.lit (.int 1)))]) (.tup [(.var 4), (.bin .add (.var 5) (.lit (.int 1)))])) (.cmp .lt (.var 5) (.lit (.int 1000)))) (.tup [(.var 4), (.bin .add (.var 5) (.lit (.int 1)))]) (.tup [(.lit (.int 1)), (.lit (.int 2))])), .app (.var 2) (.call 4 [(.blt .min2 [(.bin .pow (.lit (.int 10)) (.lit (.int 6))), (.bin .add (.var 4) (.lit (.int 1)))]), (.var 5)]), .share 2, .fors (.nm 6) (.var 2) [.asg (.nm 7) (.call 1 [(.var 6)]), .ifs (.or (.blt .isBool [(.var 7)]) (.or (.cmp .ne (.var 7) (.call 6 [(.var 6)])) (.not (.chain .le .lt (.bin .mul (.var 7) (.idx (.var 6) (.lit (.int 1)))) (.idx (.var 6) (.lit (.int 0))) (.bin .mul (.bin .add (.var 7) (.lit (.int 1))) (.idx (.var 6) (.lit (.int 1)))))))) [.ret (.lit (.bl false))] [],
    .fors (.nm 8) (.var 2) [.asg (.nm 7) (.call 0 [(.var 6), (.var 8)]), .ifs (.or (.not (.blt .isBool [(.var 7)])) (.cmp .ne (.var 7) (.cmp .lt (.bin .mul (.idx (.var 6) (.lit (.int 0))) (.idx (.var 8) (.lit (.int 1)))) (.bin .mul (.idx (.var 8) (.lit (.int 0))) (.idx (.var 6) (.lit (.int 1))))))) [.ret (.lit (.bl false))] []]],
    .ret (.lit (.bl true))]⟩
def d_law : DS := ⟨"law", ["_law_script", "_law_deal_here", "_law_some", "_law_k", "_law_top", "_law_bottom", "_law_one", "_law_found", "_law_other"], ["_law_script"], defArgs (top 9), defBody (top 9), defScope (top 9), f_law⟩
def pg : Pg := ⟨[d_less, d_whole, d_law_deal, d_law_draw, d_law_lowest, d_law_fraction, d_law_whole, d_law], [], ["bool", "isinstance", "len", "list", "max", "min", "range", "reversed"]⟩
theorem binds : allB pg.Ds := ⟨fun _ _ _ _ _ _ us hl => match us, hl with | [_, _], _ => rfl, fun _ _ _ _ _ _ us hl => match us, hl with | [_], _ => rfl, fun _ _ _ _ _ _ us hl => match us, hl with | [_, _], _ => rfl, fun _ _ _ _ _ _ us hl => match us, hl with | [_, _], _ => rfl, fun _ _ _ _ _ _ us hl => match us, hl with | [_, _], _ => rfl, fun _ _ _ _ _ _ us hl => match us, hl with | [_], _ => rfl, fun _ _ _ _ _ _ us hl => match us, hl with | [_], _ => rfl, fun _ _ _ _ _ _ us hl => match us, hl with | [_], _ => rfl, trivial⟩
-- law at 9; index 7; loose ["less", "whole", "_law_deal", "_law_draw", "_law_lowest", "_law_fraction", "_law_whole"]
theorem okAll : pg.Ds.all (pg.okD 60) = true := by decide +kernel
end Q
/-! fractions in lowest terms. -/
namespace J
open PySem L2
def fnLowest : Fn := ⟨2, 4, [.ifs (.cmp .lt (.var 1) (.lit (.int 0))) [.par2 0 1 (.bin .sub (.lit (.int 0)) (.var 0)) (.bin .sub (.lit (.int 0)) (.var 1))] [], .par2 2 3 (.blt .max2 [(.var 0), (.bin .sub (.lit (.int 0)) (.var 0))]) (.var 1),
  .whl (.cmp .gt (.var 3) (.lit (.int 0))) [.par2 2 3 (.var 3) (.bin .mod (.var 2) (.var 3))], .ret (.tup [(.bin .fdiv (.var 0) (.var 2)), (.bin .fdiv (.var 1) (.var 2))])]⟩
def gcdI (t b : Int) : Int := (Nat.gcd t.natAbs b.natAbs : Nat)
def low (t b : Int) : Int × Int := if b < 0 then ((0 - t) / gcdI t b, (0 - b) / gcdI t b) else (t / gcdI t b, b / gcdI t b)
theorem gcdI_pos {t b : Int} (h : b ≠ 0) : 0 < gcdI t b := by
  unfold gcdI
  have : 0 < Nat.gcd t.natAbs b.natAbs := Nat.gcd_pos_of_pos_right _ (by omega)
  omega
theorem gcdI_le {t b : Int} (h : b ≠ 0) : gcdI t b ≤ b.natAbs := by
  unfold gcdI
  have : Nat.gcd t.natAbs b.natAbs ≤ b.natAbs := Nat.gcd_le_right _ (by omega)
  omega
theorem low_pos {t b : Int} (h : b ≠ 0) : 1 ≤ (low t b).2 := by
  have h1 := gcdI_pos (t := t) h
  have h2 := gcdI_le (t := t) h
  unfold low
  split
  · show 1 ≤ (0 - b) / gcdI t b
    exact (Int.le_ediv_iff_mul_le h1).mpr (by omega)
  · show 1 ≤ b / gcdI t b
    exact (Int.le_ediv_iff_mul_le h1).mpr (by omega)
theorem div_natAbs {a g : Int} (h : 0 < g) : (a / g).natAbs ≤ a.natAbs := Int.natAbs_ediv_le_natAbs a g
theorem low_fst {t b : Int} (h : b ≠ 0) : (low t b).1.natAbs ≤ t.natAbs := by
  have h1 := gcdI_pos (t := t) h
  unfold low
  split
  · have := div_natAbs (a := 0 - t) h1; show ((0 - t) / gcdI t b).natAbs ≤ _; omega
  · exact div_natAbs h1
theorem low_snd {t b : Int} (h : b ≠ 0) : (low t b).2.natAbs ≤ b.natAbs := by
  have h1 := gcdI_pos (t := t) h
  unfold low
  split
  · have := div_natAbs (a := 0 - b) h1; show ((0 - b) / gcdI t b).natAbs ≤ _; omega
  · exact div_natAbs h1
theorem euclid_whl {C : Calls} {g : List D} {μ : Sto} {a b : Slot} {x y : Int} {S : Flo → Sto → Prop} (hx : 0 ≤ x) (hy : 0 ≤ y) (hyf : y < 2 ^ 190) (h : S (.nx [a, b, .val (.int (gcdI x y)), .val (.int 0)]) μ) :
    OkS (evalS C g (.whl (.cmp .gt (.var 3) (.lit (.int 0))) [.par2 2 3 (.var 3) (.bin .mod (.var 2) (.var 3))]) [a, b, .val (.int x), .val (.int y)]) μ S := by
  refine oks_whl (I := fun n ρ μ' => μ' = μ ∧ ∃ x' y' : Int, ρ = [a, b, .val (.int x'), .val (.int y')] ∧ 0 ≤ x' ∧ 0 ≤ y' ∧ n = y'.toNat ∧ gcdI x' y' = gcdI x y) (n := y.toNat) (by unfold fuelW; omega) ⟨rfl, x, y, rfl, hx, hy, rfl, rfl⟩ ?_
  rintro n ρ μ' ⟨rfl, x', y', rfl, h1, h2, rfl, h3⟩
  rw [evalT_cmp, ok_bind]
  simp only [evalE, ok_bind, ok_pure, List.getElem?_cons_zero, List.getElem?_cons_succ, RV.d, litD, cmpD, ok_some]
  by_cases hp : 0 < y'
  · simp only [hp, decide_true, if_true]
    rw [oks_cons]
    simp only [evalS, oks_stE]
    rw [ok_es, ok_varE rfl]
    simp only [needV, RV.val, ok_some]
    rw [ok_es, ok_binE, ok_varE rfl, ok_varE rfl]
    simp only [RV.d, mod_i hp, ok_some, needV, RV.val]
    rw [ok_es0]
    simp only [oks_bind, slotO, List.length_cons, List.length_nil, List.set_cons_succ, List.set_cons_zero]
    rw [if_pos (by decide)]
    simp only [ok_some, List.length_cons, List.length_nil]
    rw [if_pos (by decide)]
    simp only [ok_some, oks_nx]
    rw [oks_nil]
    refine ⟨(x' % y').toNat, ?_, rfl, y', x' % y', rfl, h2, Int.emod_nonneg _ (by omega), rfl, ?_⟩
    · have := Int.emod_lt_of_pos x' hp; omega
    · rw [← h3]
      unfold gcdI
      have e : (x' % y').natAbs = x'.natAbs % y'.natAbs := by
        obtain ⟨m, rfl⟩ := Int.eq_ofNat_of_zero_le h1
        obtain ⟨n, rfl⟩ := Int.eq_ofNat_of_zero_le h2
        rfl
      rw [e, Nat.gcd_comm, ← Nat.gcd_rec, Nat.gcd_comm]
  · simp only [hp, decide_false, Bool.false_eq_true, if_false]
    have e : y' = 0 := by omega
    subst e
    have : gcdI x' 0 = x' := by
      unfold gcdI
      rw [show (0 : Int).natAbs = 0 from rfl, Nat.gcd_zero_right]
      omega
    rw [this] at h3
    rw [h3]
    exact h
theorem gcdI_neg {t b : Int} : gcdI (0 - t) (0 - b) = gcdI t b := by
  unfold gcdI
  rw [show (0 - t).natAbs = t.natAbs by omega, show (0 - b).natAbs = b.natAbs by omega]
theorem gcdI_abs {t b : Int} : gcdI (if 0 - t > t then 0 - t else t) b = gcdI t b := by
  unfold gcdI
  congr 2
  split <;> omega
theorem div_i' {a b : Int} (h : 0 < b) (hb : b < 2 ^ 190) : binD .fdiv (.int a) (.int b) = some (.v (.int (a / b))) := div_i h (by
  have : b.natAbs < 2 ^ 190 := by omega
  exact Nat.lt_of_lt_of_le this (Nat.pow_le_pow_right (by decide) (by decide)))
theorem lowest_tail {C : Calls} {g : List D} {μ : Sto} {t b : Int} {S : Flo → Sto → Prop} (hb : 0 < b) (hb1 : b < 2 ^ 190) (q : S (.rt (.v (.tup [.int (t / gcdI t b), .int (b / gcdI t b)]))) μ) :
    OkS (evalSs C g [.par2 2 3 (.blt .max2 [(.var 0), (.bin .sub (.lit (.int 0)) (.var 0))]) (.var 1), .whl (.cmp .gt (.var 3) (.lit (.int 0))) [.par2 2 3 (.var 3) (.bin .mod (.var 2) (.var 3))], .ret (.tup [(.bin .fdiv (.var 0) (.var 2)), (.bin .fdiv (.var 1) (.var 2))])] [.val (.int t), .val (.int b), .none, .none]) μ S := by
  rw [oks_cons]
  simp only [evalS, oks_stE]
  rw [ok_es]
  simp only [evalE, evalBs, ok_bind, ok_pure, List.getElem?_cons_zero, RV.d, litD, sub_i, ok_some]
  refine ok_bltM (b := .max2) (ds := [.int t, .int (0 - t)]) (a := RV.v (.int (if 0 - t > t then 0 - t else t))) rfl rfl ?_
  simp only [needV, RV.val, ok_some]
  rw [ok_es, ok_varE rfl]
  simp only [needV, RV.val, ok_some]
  rw [ok_es0]
  simp only [oks_bind, slotO, List.length_cons, List.length_nil, List.set_cons_succ, List.set_cons_zero]
  rw [if_pos (by decide)]
  simp only [ok_some, List.length_cons, List.length_nil]
  rw [if_pos (by decide)]
  simp only [ok_some, oks_nx]
  rw [oks_cons]
  refine euclid_whl (by split <;> omega) (by omega) hb1 ?_
  rw [gcdI_abs]
  have g1 := gcdI_pos (t := t) (b := b) (by omega)
  have g2 := gcdI_le (t := t) (b := b) (by omega)
  simp only []
  rw [oks_cons]
  simp only [evalS, oks_stE, evalE, evalEs, ok_bind, ok_pure, List.getElem?_cons_zero, List.getElem?_cons_succ, RV.d, div_i' (b := gcdI t b) g1 (by omega), ok_some, needV, RV.val, List.length_cons, List.length_nil]
  rw [if_pos (by show 2 ≤ sizeLine; exact small_line (by decide))]
  simp only [ok_pure, oks_rt, rtV]
  exact q
theorem lowest_ok {Pr : List Fn} {g : List D} {k f : Nat} {μ : Sto} {t b : Int} {Q : RV → Sto → Prop} (e : Pr[f]? = some fnLowest) (hb : b ≠ 0) (hb1 : b.natAbs < 2 ^ 190) (q : Q (.v (.tup [.int (low t b).1, .int (low t b).2])) μ) :
    Ok (callP Pr g (k + 1) f [.int t, .int b]) μ Q := by
  refine ok_call e rfl ?_
  show OkS (evalSs _ _ fnLowest.body [.val (.int t), .val (.int b), .none, .none]) μ _
  unfold fnLowest
  rw [oks_cons]
  simp only [evalS, oks_stE]
  rw [evalT_cmp, ok_bind]
  simp only [evalE, ok_bind, ok_pure, List.getElem?_cons_zero, List.getElem?_cons_succ, RV.d, litD, cmpD, ok_some]
  by_cases hn : b < 0
  · simp only [hn, decide_true, if_true]
    rw [oks_cons]
    simp only [evalS, oks_stE, evalE, evalEs, ok_bind, ok_pure, List.getElem?_cons_zero, List.getElem?_cons_succ, RV.d, litD, sub_i, ok_some, needV, RV.val, oks_bind, slotO, List.length_cons, List.length_nil, List.set_cons_succ, List.set_cons_zero]
    rw [if_pos (by decide)]
    simp only [ok_some, List.length_cons, List.length_nil]
    rw [if_pos (by decide)]
    simp only [ok_some, oks_nx]
    rw [oks_nil]
    simp only []
    refine lowest_tail (by omega) (by omega) ?_
    rw [gcdI_neg]
    unfold low at q
    rw [if_pos hn] at q
    exact q
  · simp only [hn, decide_false, Bool.false_eq_true, if_false]
    rw [oks_nil]
    simp only []
    refine lowest_tail (by omega) (by omega) ?_
    unfold low at q
    rw [if_neg hn] at q
    exact q
end J
namespace Q
open PySem L2 J
abbrev Cl (k : Nat) : Calls := callP pg.fn pg.g k
/-- a fraction of the law's -/
def Fr (d : D) : Prop := ∃ a b : Int, d = .tup [.int a, .int b] ∧ 1 ≤ b ∧ b ≤ 2000 ∧ a.natAbs ≤ 2000000
theorem small_i {a : Int} (h : a.natAbs ≤ 2 ^ 64) : a.natAbs < 2 ^ 200 := Nat.lt_of_le_of_lt h (Nat.pow_lt_pow_right (by decide) (by decide))
theorem ok_idxL {ds : List D} {i : Int} {d : D} {μ : Sto} {Q : RV → Sto → Prop} (h : idxD (.lst ds) (.int i) = some d) (q : Q (.v d) μ) : Ok (idxM (.lst ds) (.int i)) μ Q := ⟨_, μ, by unfold idxM; simp only [h, Option.map_some], q⟩
theorem ok_idxT {ds : List D} {i : Int} {d : D} {μ : Sto} {Q : RV → Sto → Prop} (h : idxD (.tup ds) (.int i) = some d) (q : Q (.v d) μ) : Ok (idxM (.tup ds) (.int i)) μ Q := ⟨_, μ, by unfold idxM; simp only [h, Option.map_some], q⟩
theorem three {r x y z : Int} (h0 : 0 ≤ r) (h1 : r < 3) : idxD (.lst [.int x, .int y, .int z]) (.int r) = some (.int x) ∨ idxD (.lst [.int x, .int y, .int z]) (.int r) = some (.int y) ∨ idxD (.lst [.int x, .int y, .int z]) (.int r) = some (.int z) := by
  have : r = 0 ∨ r = 1 ∨ r = 2 := by omega
  rcases this with rfl | rfl | rfl
  · exact .inl rfl
  · exact .inr (.inl rfl)
  · exact .inr (.inr rfl)
theorem two {r x y : Int} (h0 : 0 ≤ r) (h1 : r < 2) : idxD (.lst [.int x, .int y]) (.int r) = some (.int x) ∨ idxD (.lst [.int x, .int y]) (.int r) = some (.int y) := by
  have : r = 0 ∨ r = 1 := by omega
  rcases this with rfl | rfl
  · exact .inl rfl
  · exact .inr rfl
theorem less_ok {k : Nat} {μ : Sto} {Q : RV → Sto → Prop} {a b c d : Int} (ha : a.natAbs ≤ 2 ^ 64) (hb : b.natAbs ≤ 2 ^ 64) (hc : c.natAbs ≤ 2 ^ 64) (hd : d.natAbs ≤ 2 ^ 64) (q : Q (.v (.bl (decide (a * d < c * b)))) μ) : Ok (Cl (k + 1) 0 [.tup [.int a, .int b], .tup [.int c, .int d]]) μ Q := by
  refine ok_call (F := f_less) rfl rfl ?_
  show OkS (evalSs _ _ f_less.body [.val (.tup [.int a, .int b]), .val (.tup [.int c, .int d])]) μ _
  unfold f_less
  rw [oks_cons]
  simp only [evalS, oks_stE, evalE, ok_bind, ok_pure, List.getElem?_cons_zero, List.getElem?_cons_succ, RV.d, litD]
  refine ok_idxT (d := .int a) rfl (ok_idxT (d := .int d) rfl ?_)
  simp only [mul_i (small_i ha) (small_i hd), ok_some]
  refine ok_idxT (d := .int c) rfl (ok_idxT (d := .int b) rfl ?_)
  simp only [mul_i (small_i hc) (small_i hb), ok_some, cmpD, Option.map_some, oks_rt, rtV]
  exact q
theorem whole_ok {k : Nat} {μ : Sto} {Q : RV → Sto → Prop} {a b : Int} (hb : 0 < b) (hb1 : b < 2 ^ 64) (q : Q (.v (.int (a / b))) μ) : Ok (Cl (k + 1) 1 [.tup [.int a, .int b]]) μ Q := by
  refine ok_call (F := f_whole) rfl rfl ?_
  show OkS (evalSs _ _ f_whole.body [.val (.tup [.int a, .int b])]) μ _
  unfold f_whole
  rw [oks_cons]
  simp only [evalS, oks_stE, evalE, ok_bind, ok_pure, List.getElem?_cons_zero, RV.d, litD]
  refine ok_idxT (d := .int a) rfl (ok_idxT (d := .int b) rfl ?_)
  simp only [div_i' (a := a) hb (by omega), ok_some, oks_rt, rtV]
  exact q
theorem law_whole_ok {k : Nat} {μ : Sto} {Q : RV → Sto → Prop} {a b : Int} (hb : 0 < b) (hb1 : b < 2 ^ 64) (q : Q (.v (.int (a / b))) μ) : Ok (Cl (k + 1) 6 [.tup [.int a, .int b]]) μ Q := by
  refine ok_call (F := f_law_whole) rfl rfl ?_
  show OkS (evalSs _ _ f_law_whole.body [.val (.tup [.int a, .int b]), .none, .none]) μ _
  unfold f_law_whole
  rw [oks_cons]
  simp only [evalS, oks_stE, evalE, ok_bind, ok_pure, List.getElem?_cons_zero, oks_bind, needV, RV.val, ok_some, bindT, bindTs, Option.bind_some, List.length_cons, List.length_nil, List.set_cons_succ, List.set_cons_zero]
  rw [if_pos (by decide)]
  simp only [Option.bind_some, List.length_cons, List.length_nil, List.set_cons_succ, List.set_cons_zero]
  rw [if_pos (by decide)]
  simp only [Option.bind_some, ok_some, oks_nx]
  rw [oks_cons]
  simp only [evalS, oks_stE, evalE, ok_bind, ok_pure, List.getElem?_cons_zero, List.getElem?_cons_succ, RV.d, mod_i hb, sub_i, div_i' (a := a - a % b) hb (by omega), ok_some, oks_rt, rtV]
  have e : (a - a % b) / b = a / b := by
    have : a - a % b = b * (a / b) := by have := Int.mul_ediv_add_emod a b; omega
    rw [this, Int.mul_ediv_cancel_left _ (by omega)]
  rw [e]
  exact q
theorem fraction_ok {k : Nat} {μ : Sto} {n m : Nat} {Q : RV → Sto → Prop} (hd : Deal μ n m) (q : ∀ d μ', Fr d → Deal μ' n m → Q (.v d) μ') : Ok (Cl (k + 2) 5 [.ref n]) μ Q := by
  have dr : pg.fn[3]? = some fnDraw := rfl
  have lw : pg.fn[4]? = some fnLowest := rfl
  refine ok_call (F := f_law_fraction) rfl rfl ?_
  show OkS (evalSs (Cl (k + 1)) pg.g f_law_fraction.body [.val (.ref n), .none, .none]) μ _
  unfold f_law_fraction
  rw [oks_cons]
  simp only [evalS, oks_stE, evalE, evalEs, ok_bind, ok_pure, List.getElem?_cons_zero, needV, RV.val, ok_some, litD, List.length_cons, List.length_nil]
  rw [if_pos (by show 3 ≤ sizeLine; exact small_line (by decide))]
  simp only [ok_pure]
  refine ok_draw dr hd (by decide) (by decide) fun r μ1 r0 r1 d1 s1 => ?_
  have h3 : ∃ z : Int, idxD (.lst [.int 1, .int 4, .int 1000]) (.int r) = some (.int z) ∧ 0 < z ∧ z ≤ 1000 := by
    rcases three (x := 1) (y := 4) (z := 1000) r0 r1 with h | h | h
    · exact ⟨1, h, by decide, by decide⟩
    · exact ⟨4, h, by decide, by decide⟩
    · exact ⟨1000, h, by decide, by decide⟩
  obtain ⟨z, ez, z0, z1⟩ := h3
  simp only [RV.d]
  refine ok_idxL ez ?_
  simp only [RV.val, ok_some]
  refine ok_draw dr d1 z0 (by omega) fun b μ2 b0 b1 d2 s2 => ?_
  simp only [add_i, ok_some, oks_bind, needV, RV.val, bindT, List.length_cons, List.length_nil, List.set_cons_succ, List.set_cons_zero]
  rw [if_pos (by decide)]
  simp only [ok_some, oks_nx]
  rw [oks_cons]
  simp only [evalS, oks_stE, evalE, evalEs, ok_bind, ok_pure, List.getElem?_cons_zero, needV, RV.val, ok_some, litD, List.length_cons, List.length_nil]
  rw [if_pos (by show 3 ≤ sizeLine; exact small_line (by decide))]
  simp only [ok_pure]
  refine ok_draw dr d2 (by decide) (by decide) fun r μ3 r0 r1 d3 s3 => ?_
  have h3 : ∃ z : Int, idxD (.lst [.int 4, .int 30, .int 1000001]) (.int r) = some (.int z) ∧ 0 < z ∧ z ≤ 1000001 := by
    rcases three (x := 4) (y := 30) (z := 1000001) r0 r1 with h | h | h
    · exact ⟨4, h, by decide, by decide⟩
    · exact ⟨30, h, by decide, by decide⟩
    · exact ⟨1000001, h, by decide, by decide⟩
  obtain ⟨z', ez', z0', z1'⟩ := h3
  simp only [RV.d]
  refine ok_idxL ez' ?_
  simp only [RV.val, ok_some]
  refine ok_draw dr d3 z0' (by omega) fun t μ4 t0 t1 d4 s4 => ?_
  simp only [add_i, ok_some, oks_bind, needV, RV.val, bindT, List.length_cons, List.length_nil, List.set_cons_succ, List.set_cons_zero]
  rw [if_pos (by decide)]
  simp only [ok_some, oks_nx]
  rw [oks_cons]
  simp only [evalS, oks_stE, evalE, evalEs, ok_bind, ok_pure, List.getElem?_cons_zero, List.getElem?_cons_succ, needV, RV.val, ok_some, litD, RV.d, sub_i, List.length_cons, List.length_nil]
  rw [if_pos (by show 2 ≤ sizeLine; exact small_line (by decide))]
  simp only [ok_pure]
  refine ok_draw dr d4 (by decide) (by decide) fun r μ5 r0 r1 d5 s5 => ?_
  have h2 : ∃ z : Int, idxD (.lst [.int 1, .int (0 - 1)]) (.int r) = some (.int z) ∧ (z = 1 ∨ z = 0 - 1) := by
    rcases two (x := 1) (y := 0 - 1) r0 r1 with h | h
    · exact ⟨1, h, .inl rfl⟩
    · exact ⟨0 - 1, h, .inr rfl⟩
  obtain ⟨sg, es, hs⟩ := h2
  simp only []
  refine ok_idxL es ?_
  have hsg : sg.natAbs ≤ 2 ^ 64 := by rcases hs with rfl | rfl <;> decide
  simp only [mul_i (a := t) (b := sg) (small_i (by omega)) (small_i hsg), ok_some]
  have ht : (t * sg).natAbs ≤ 1000001 := by rcases hs with rfl | rfl <;> omega
  refine lowest_ok lw (by omega) (by omega) ?_
  simp only [oks_rt, rtV]
  have e1 := low_pos (t := t * sg) (b := 1 + b) (by omega)
  have e2 := low_fst (t := t * sg) (b := 1 + b) (by omega)
  have e3 := low_snd (t := t * sg) (b := 1 + b) (by omega)
  exact q _ μ5 ⟨_, _, rfl, e1, by omega, by omega⟩ d5
end Q
/-! more rules of evaluation. -/
namespace J
open PySem L2
section
variable {C : Calls} {g : List D} {μ : Sto} {ρ : Env} {Q : RV → Sto → Prop} {S : Flo → Sto → Prop} {i : Nat} {ds : List D} {a b c e : E}
theorem ok_varO (h : ρ[i]? = some (.own ds)) : Ok (evalE C g (.var i) ρ) μ Q ↔ Q (.bo i ds) μ := by
  simp only [evalE, h, ok_pure]
theorem oks_app (h : ρ[i]? = some (.own ds)) (hl : ds.length + 1 ≤ sizeLine) (he : Ok (evalE C g e ρ) μ fun x μ1 => ∃ d, x.val = some d ∧ S (.nx (ρ.set i (.own (ds ++ [d])))) μ1) : OkS (evalS C g (.app (.var i) e) ρ) μ S := by
  simp only [evalS, oks_stE]
  rw [ok_varO h]
  simp only [oks_bind, isLst, ok_pure, oks_stE]
  rw [ok_es]
  refine he.mono fun x μ1 ⟨d, e1, q⟩ => ?_
  unfold needV
  refine ok_oM e1 ?_
  rw [ok_es0]
  simp only [extM, List.length_singleton]
  rw [if_pos hl]
  exact oks_nx.mpr q
theorem oks_share (h : ρ[i]? = some (.own ds)) (q : S (.nx (ρ.set i (.val (.lst ds)))) μ) : OkS (evalS C g (.share i) ρ) μ S := by
  simp only [evalS, h]
  exact oks_nx.mpr q
theorem ok_iteE (h : Ok (evalT C g c ρ) μ fun k μ1 => if k = true then Ok (evalE C g a ρ) μ1 Q else Ok (evalE C g b ρ) μ1 Q) : Ok (evalE C g (.ite c a b) ρ) μ Q := by
  unfold evalT at h
  simp only [evalE, ok_bind] at h ⊢
  refine h.mono fun x μ1 h => h.mono fun k μ2 h => ?_
  cases k with
  | true => rw [if_pos rfl] at h ⊢; exact h
  | false => rw [if_neg Bool.false_ne_true] at h ⊢; exact h
theorem ok_T {P : Bool → Sto → Prop} : Ok (evalT C g e ρ) μ P ↔ Ok (evalE C g e ρ) μ fun x μ1 => Ok (oM (truD x.d)) μ1 P := by
  unfold evalT; rw [ok_bind]
theorem ok_blt1 {f : Blt} : Ok (evalE C g (.blt f [a]) ρ) μ Q ↔ Ok (evalE C g a ρ) μ fun x μ1 => Ok (bltM f [x.d]) μ1 Q := by
  simp only [evalE, evalBs, ok_bind, ok_pure]
theorem ok_blt2 {f : Blt} : Ok (evalE C g (.blt f [a, b]) ρ) μ Q ↔ Ok (evalE C g a ρ) μ fun x μ1 => Ok (evalE C g b ρ) μ1 fun y μ2 => Ok (bltM f [x.d, y.d]) μ2 Q := by
  simp only [evalE, evalBs, ok_bind, ok_pure]
theorem ok_idxE : Ok (evalE C g (.idx a b) ρ) μ Q ↔ Ok (evalE C g a ρ) μ fun x μ1 => Ok (evalE C g b ρ) μ1 fun y μ2 => Ok (idxM x.d y.d) μ2 Q := by
  simp only [evalE, ok_bind]
theorem ok_cmpE {o : COp} : Ok (evalE C g (.cmp o a b) ρ) μ Q ↔ Ok (evalE C g a ρ) μ fun x μ1 => Ok (evalE C g b ρ) μ1 fun y μ2 => Ok (oM ((cmpD o x.d y.d).map fun b => .v (.bl b))) μ2 Q := by
  simp only [evalE, ok_bind]
theorem ok_cmpT {o : COp} {P : Bool → Sto → Prop} : Ok (evalT C g (.cmp o a b) ρ) μ P ↔ Ok (evalE C g a ρ) μ fun x μ1 => Ok (evalE C g b ρ) μ1 fun y μ2 => Ok (oM (cmpD o x.d y.d)) μ2 P := by
  rw [evalT_cmp]; simp only [ok_bind]
theorem ok_orT {P : Bool → Sto → Prop} : Ok (evalT C g (.or a b) ρ) μ P ↔ Ok (evalT C g a ρ) μ fun k μ1 => if k = true then P true μ1 else Ok (evalT C g b ρ) μ1 P := by
  rw [evalT_or, ok_bind]; simp only [ok_ite, ok_pure]
theorem ok_andT {P : Bool → Sto → Prop} : Ok (evalT C g (.and a b) ρ) μ P ↔ Ok (evalT C g a ρ) μ fun k μ1 => if k = true then Ok (evalT C g b ρ) μ1 P else P false μ1 := by
  rw [evalT_and, ok_bind]; simp only [ok_ite, ok_pure]
theorem ok_notT {P : Bool → Sto → Prop} : Ok (evalT C g (.not a) ρ) μ P ↔ Ok (evalT C g a ρ) μ fun k μ1 => P (!k) μ1 := by
  rw [evalT_not, ok_bind]; simp only [ok_pure]
theorem ok_chainT {o p : COp} {P : Bool → Sto → Prop} : Ok (evalT C g (.chain o p a b c) ρ) μ P ↔ Ok (evalE C g a ρ) μ fun x μ1 => Ok (evalE C g b ρ) μ1 fun y μ2 => Ok (oM (cmpD o x.d y.d)) μ2 fun k μ3 => if k = true then Ok (evalE C g c ρ) μ3 fun z μ4 => Ok (oM (cmpD p y.d z.d)) μ4 P else P false μ3 := by
  rw [evalT_chain]; simp only [ok_bind, ok_ite, ok_pure]
theorem ok_tupE {es : List E} (h : Ok (evalEs C g es ρ) μ fun ds μ1 => ds.length ≤ sizeLine ∧ Q (.v (.tup ds)) μ1) : Ok (evalE C g (.tup es) ρ) μ Q := by
  simp only [evalE, ok_bind]
  refine h.mono fun ds μ1 ⟨hl, q⟩ => ?_
  rw [if_pos hl]
  exact ok_pure.mpr q
end
end J
namespace Q
open PySem L2 J
theorem all2_P {P : D → Prop} {xs : List D} {os : List (Option D)} (h : All2 (fun _ o => ∃ d, o = some d ∧ P d) xs os) : (∀ d ∈ os.filterMap id, P d) ∧ (os.filterMap id).length = xs.length := by
  induction h with
  | nil => exact ⟨fun d hd => (by cases hd), rfl⟩
  | cons h _ ih =>
    obtain ⟨d, rfl, hx⟩ := h
    refine ⟨fun e he => ?_, by simpa using ih.2⟩
    rw [List.filterMap_cons] at he
    rcases List.mem_cons.mp he with rfl | he
    · exact hx
    · exact ih.1 e he
theorem shp_pair {a b : Int} : shp (.tup [.int a, .int b]) = true := rfl
theorem inner_ok {k : Nat} {n : Nat} {ns : List Int} {ts : List D} {x3 x4 x5 x7 x8 : Slot} {a b : Int} {μ : Sto} {S : Flo → Sto → Prop} (hF : Fr (.tup [.int a, .int b])) (hts : ∀ d ∈ ts, Fr d) (ht : ts.length ≤ 100)
    (q : ∀ x7 x8, S (.nx [.val (.src ns), .val (.ref n), .val (.lst ts), x3, x4, x5, .val (.tup [.int a, .int b]), x7, x8]) μ) :
    OkS (evalS (Cl (k + 1)) pg.g (.fors (.nm 8) (.var 2) [.asg (.nm 7) (.call 0 [(.var 6), (.var 8)]), .ifs (.or (.not (.blt .isBool [(.var 7)])) (.cmp .ne (.var 7) (.cmp .lt (.bin .mul (.idx (.var 6) (.lit (.int 0))) (.idx (.var 8) (.lit (.int 1)))) (.bin .mul (.idx (.var 8) (.lit (.int 0))) (.idx (.var 6) (.lit (.int 1))))))) [.ret (.lit (.bl false))] []])
      [.val (.src ns), .val (.ref n), .val (.lst ts), x3, x4, x5, .val (.tup [.int a, .int b]), x7, x8]) μ S := by
  rw [fors_eq, oks_stE]
  refine ok_W ?_
  rw [ok_varE rfl]
  refine ⟨_, _, rfl, rfl, ?_⟩
  refine oks_each (I := fun r ρ μ' => μ' = μ ∧ (∀ d ∈ r, Fr d) ∧ ∃ x7 x8, ρ = [.val (.src ns), .val (.ref n), .val (.lst ts), x3, x4, x5, .val (.tup [.int a, .int b]), x7, x8]) ?_ ?_ ⟨rfl, hts, _, _, rfl⟩
  · rintro d r ρ μ1 ⟨rfl, hr, x7, x8, rfl⟩
    obtain ⟨c, e, hd, e1, e2, e3⟩ := hr d List.mem_cons_self
    obtain ⟨a', b', hab, f1, f2, f3⟩ := hF
    cases hab
    subst hd
    simp only [oks_bind, bindT, List.length_cons, List.length_nil, List.set_cons_succ, List.set_cons_zero]
    rw [if_pos (by decide)]
    simp only [ok_some]
    rw [oks_cons]
    simp only [evalS, oks_stE]
    rw [ok_call2, ok_varE rfl]
    simp only [needV, RV.val, ok_some]
    rw [ok_varE rfl]
    simp only [RV.val, ok_some]
    refine less_ok (by omega) (by omega) (by omega) (by omega) ?_
    simp only [oks_bind, RV.val, ok_some, bindT, List.length_cons, List.length_nil, List.set_cons_succ, List.set_cons_zero]
    rw [if_pos (by decide)]
    simp only [ok_some, oks_nx]
    rw [oks_cons]
    simp only [evalS, oks_stE]
    rw [evalT_or, ok_bind, evalT_not, ok_bind]
    unfold evalT
    rw [ok_bind]
    simp only [evalE, evalBs, ok_bind, ok_pure, List.getElem?_cons_zero, List.getElem?_cons_succ, RV.d]
    refine ok_bltM (a := RV.v (.bl true)) rfl rfl ?_
    simp only [truD, ok_some, ok_bind, ok_pure, Bool.not_true, Bool.false_eq_true, if_false, needV, RV.val, RV.d, litD]
    refine ok_idxT (d := .int a) rfl (ok_idxT (d := .int e) rfl ?_)
    simp only [mul_i (a := a) (b := e) (small_i (by omega)) (small_i (by omega)), ok_some]
    refine ok_idxT (d := .int c) rfl (ok_idxT (d := .int b) rfl ?_)
    simp only [mul_i (a := c) (b := b) (small_i (by omega)) (small_i (by omega)), ok_some, cmpD, Option.map_some]
    refine ok_oM (a := RV.v (.bl false)) ?_ ?_
    · generalize decide (a * e < c * b) = z
      cases z <;> rfl
    · simp only [truD, ok_some, Bool.false_eq_true, if_false]
      rw [oks_nil]
      simp only []
      rw [oks_nil]
      exact ⟨rfl, fun d hd => hr d (List.mem_cons_of_mem _ hd), _, _, rfl⟩
  · rintro ρ μ1 ⟨rfl, -, x7, x8, rfl⟩
    exact q x7 x8
theorem law_ok {ns : List Int} (hl : ns.length ≤ 63) : Ok (Cl 10 7 [.src ns]) [] fun rv _ => rv = .v (.bl true) := by
  have lw : pg.fn[4]? = some fnLowest := rfl
  refine ok_call (F := f_law) rfl rfl ?_
  show OkS (evalSs (Cl 9) pg.g f_law.body [.val (.src ns), .none, .none, .none, .none, .none, .none, .none, .none]) [] _
  unfold f_law
  rw [oks_cons]
  simp only [evalS, oks_stE]
  rw [ok_call2]
  simp only [evalE, ok_pure, List.getElem?_cons_zero, needV, RV.val, ok_some, litD]
  refine (deal_ok (f := 2) (k := 8) rfl (by decide) (by decide) hl).mono ?_
  rintro rv μ1 ⟨rfl, d1, -, -⟩
  simp only [oks_bind, needV, RV.val, ok_some, bindT, List.length_cons, List.length_nil, List.set_cons_succ, List.set_cons_zero]
  rw [if_pos (by decide)]
  simp only [ok_some, oks_nx]
  rw [oks_cons]
  simp only [evalS, oks_stE]
  refine ok_compI (I := fun μ' => Deal μ' 1 0) (R := fun _ o => ∃ d, o = some d ∧ Fr d) (ok_W ?_)
  simp only [evalE, ok_bind, ok_pure, RV.d, litD, intO, ok_some]
  rw [if_pos (by decide)]
  simp only [ok_pure]
  refine ⟨_, _, rfl, rfl, by rw [List.length_map, List.length_range]; exact small_line (by decide), d1, fun d _ μ2 d2 => ?_, fun os μ2 d2 ht => ?_⟩
  · refine ok_compF (by simp only [wipeS, bindT, List.length_set, List.length_cons, List.length_nil]; rw [if_pos (by decide)]) ?_
    simp only [List.set_cons_succ, List.set_cons_zero, evalC, ok_pure, if_true]
    rw [ok_call1]
    simp only [evalE, ok_pure, List.getElem?_cons_zero, List.getElem?_cons_succ, needV, RV.val, ok_some]
    exact fraction_ok (k := 7) d2 fun d μ3 hF d3 => ⟨_, rfl, d3, _, rfl, hF⟩
  obtain ⟨t1, t2⟩ := all2_P ht
  rw [List.length_map, List.length_range] at t2
  generalize os.filterMap id = fs at t1 t2
  have t2 : fs.length = 6 := t2
  simp only [oks_bind, slotO, List.length_cons, List.length_nil, List.set_cons_succ, List.set_cons_zero]
  rw [if_pos (by decide)]
  simp only [ok_some, oks_nx]
  obtain ⟨f0, fr, rfl⟩ : ∃ f0 fr, fs = f0 :: fr := by
    cases fs with
    | nil => cases t2
    | cons f r => exact ⟨f, r, rfl⟩
  obtain ⟨a, b, rfl, b1, b2, a1⟩ := t1 f0 List.mem_cons_self
  rw [oks_cons]
  simp only [evalS, oks_stE, evalE, ok_bind, ok_pure, List.getElem?_cons_zero, List.getElem?_cons_succ, RV.d, litD]
  refine ok_idxL (d := .tup [.int a, .int b]) (by simp only [idxD, atI, List.length_cons, ixN]; rw [if_pos (by decide), if_pos (by omega)]; rfl) ?_
  simp only [oks_bind, needV, RV.val, ok_some, bindT, bindTs, Option.bind_some, List.length_cons, List.length_nil, List.set_cons_succ, List.set_cons_zero]
  rw [if_pos (by decide)]
  simp only [Option.bind_some, List.length_cons, List.length_nil, List.set_cons_succ, List.set_cons_zero]
  rw [if_pos (by decide)]
  simp only [Option.bind_some, ok_some, oks_nx]
  rw [oks_cons]
  have t7 : (D.tup [.int a, .int b] :: fr).length = 6 := t2
  have F0 : ∀ d ∈ D.tup [.int a, .int b] :: fr, Fr d := t1
  generalize D.tup [.int a, .int b] :: fr = fs at t7 F0
  refine oks_app rfl (by rw [t7]; exact small_line (by decide)) (ok_iteE ?_)
  have hb1 : (b + 1) ≠ 0 := by omega
  rw [evalT_and, ok_bind, evalT_cmp, ok_bind, ok_call2, ok_varE rfl]
  simp only [needV, RV.val, ok_some]
  rw [ok_binE, ok_varE rfl, ok_litE]
  simp only [RV.d, litD, add_i, ok_some, RV.val]
  refine lowest_ok lw hb1 (by omega) ?_
  rw [ok_bind]
  refine ok_tupE ?_
  rw [ok_es, ok_varE rfl]
  simp only [needV, RV.val, ok_some]
  rw [ok_es, ok_binE, ok_varE rfl, ok_litE]
  simp only [RV.d, litD, add_i, ok_some, needV, RV.val]
  rw [ok_es0]
  refine ⟨small_line (by simp), ?_⟩
  refine ok_oM (cmp_eq shp_pair shp_pair) ?_
  refine Ok.mono (Q := fun k μ1 => Deal μ1 1 0 ∧ (k = true → b < 1000)) ?_ ?_
  · split
    · rw [evalT_cmp, ok_bind, ok_varE rfl, ok_bind, ok_litE]
      simp only [RV.d, litD, cmpD, ok_some]
      exact ⟨d2, fun h => of_decide_eq_true h⟩
    · rw [ok_pure]; exact ⟨d2, fun h => by cases h⟩
  rintro kk μ3 ⟨d3, hkk⟩
  have fin : ∀ d, Fr d → OkS (evalSs (Cl 9) pg.g [.app (.var 2) (.call 4 [(.blt .min2 [(.bin .pow (.lit (.int 10)) (.lit (.int 6))), (.bin .add (.var 4) (.lit (.int 1)))]), (.var 5)]), .share 2, .fors (.nm 6) (.var 2) [.asg (.nm 7) (.call 1 [(.var 6)]), .ifs (.or (.blt .isBool [(.var 7)]) (.or (.cmp .ne (.var 7) (.call 6 [(.var 6)])) (.not (.chain .le .lt (.bin .mul (.var 7) (.idx (.var 6) (.lit (.int 1)))) (.idx (.var 6) (.lit (.int 0))) (.bin .mul (.bin .add (.var 7) (.lit (.int 1))) (.idx (.var 6) (.lit (.int 1)))))))) [.ret (.lit (.bl false))] [],
    .fors (.nm 8) (.var 2) [.asg (.nm 7) (.call 0 [(.var 6), (.var 8)]), .ifs (.or (.not (.blt .isBool [(.var 7)])) (.cmp .ne (.var 7) (.cmp .lt (.bin .mul (.idx (.var 6) (.lit (.int 0))) (.idx (.var 8) (.lit (.int 1)))) (.bin .mul (.idx (.var 8) (.lit (.int 0))) (.idx (.var 6) (.lit (.int 1))))))) [.ret (.lit (.bl false))] []]],
    .ret (.lit (.bl true))] [.val (.src ns), .val (.ref 1), .own (fs ++ [d]), .none, .val (.int a), .val (.int b), .none, .none, .none]) μ3 (fun fl μ1 => match fl with
      | .nx _ => RV.v .non = .v (.bl true)
      | .rt r => r = .v (.bl true)
      | _ => False) := by
    intro d hF
    rw [oks_cons]
    refine oks_app rfl (by simp; rw [t7]; exact small_line (by decide)) ?_
    rw [ok_call2]
    simp only [evalE, evalBs, ok_bind, ok_pure, List.getElem?_cons_zero, List.getElem?_cons_succ, RV.d, litD, add_i, ok_some]
    refine ok_oM (a := RV.v (.int (10 ^ 6))) (by
      show (if (0 : Int) ≤ 6 ∧ (6 : Int) ≤ 1000000 ∧ (10 : Int).natAbs < 2 ^ 64 then some (RV.v (D.int (10 ^ (6 : Int).toNat))) else none) = _
      rw [if_pos ⟨by decide, by decide, by decide⟩]; rfl) ?_
    simp only []
    refine ok_bltM (b := .min2) (ds := [.int (10 ^ 6), .int (a + 1)]) (a := RV.v (.int (if a + 1 < 10 ^ 6 then a + 1 else 10 ^ 6))) rfl rfl ?_
    simp only [needV, RV.val, ok_some]
    refine lowest_ok lw (by omega) (by omega) ?_
    refine ⟨_, rfl, ?_⟩
    generalize hmn : (if a + 1 < 10 ^ 6 then a + 1 else 10 ^ 6) = mn
    have hmn2 : mn.natAbs ≤ 2000001 := by rw [← hmn]; split <;> omega
    have e1 := low_pos (t := mn) (b := b) (by omega)
    have e3 := low_snd (t := mn) (b := b) (by omega)
    have e2 : (low mn b).1.natAbs ≤ 2000000 := by
      have := low_fst (t := mn) (b := b) (by omega)
      rw [← hmn] at this ⊢
      split at this <;> rename_i hc <;> simp only [hc, if_true, if_false] <;> omega
    have F8 : ∀ d' ∈ fs ++ [d] ++ [D.tup [.int (low mn b).1, .int (low mn b).2]], Fr d' := fun d' hd' => by
      rcases List.mem_append.mp hd' with hd' | hd'
      · rcases List.mem_append.mp hd' with hd' | hd'
        · exact F0 d' hd'
        · rw [List.mem_singleton.mp hd']; exact hF
      · rw [List.mem_singleton.mp hd']; exact ⟨_, _, rfl, e1, by omega, e2⟩
    have t9 : (fs ++ [d] ++ [D.tup [.int (low mn b).1, .int (low mn b).2]]).length ≤ 100 := by simp; omega
    generalize fs ++ [d] ++ [D.tup [.int (low mn b).1, .int (low mn b).2]] = ts at F8 t9
    simp only [List.set_cons_succ, List.set_cons_zero]
    rw [oks_cons]
    refine oks_share rfl ?_
    simp only [List.set_cons_succ, List.set_cons_zero]
    rw [oks_cons, fors_eq, oks_stE]
    refine ok_W ?_
    rw [ok_varE rfl]
    refine ⟨_, _, rfl, rfl, ?_⟩
    refine oks_each (I := fun r ρ μ' => (∀ d ∈ r, Fr d) ∧ ∃ x6 x7 x8, ρ = [.val (.src ns), .val (.ref 1), .val (.lst ts), .none, .val (.int a), .val (.int b), x6, x7, x8]) ?_ ?_ ⟨F8, _, _, _, rfl⟩
    · rintro d r ρ μ4 ⟨hr, x6, x7, x8, rfl⟩
      obtain ⟨c, e, rfl, e1, e2, e3⟩ := hr d List.mem_cons_self
      simp only [oks_bind, bindT, List.length_cons, List.length_nil, List.set_cons_succ, List.set_cons_zero]
      rw [if_pos (by decide)]
      simp only [ok_some]
      rw [oks_cons]
      simp only [evalS, oks_stE]
      rw [ok_call1, ok_varE rfl]
      simp only [needV, RV.val, ok_some]
      refine whole_ok (by omega) (by omega) ?_
      simp only [oks_bind, RV.val, ok_some, bindT, List.length_cons, List.length_nil, List.set_cons_succ, List.set_cons_zero]
      rw [if_pos (by decide)]
      simp only [ok_some, oks_nx]
      rw [oks_cons]
      simp only [evalS, oks_stE]
      rw [ok_orT, ok_T, ok_blt1, ok_varE rfl]
      refine ok_bltM (a := RV.v (.bl false)) rfl rfl ?_
      simp only [RV.d, truD, ok_some, Bool.false_eq_true, if_false]
      rw [ok_orT, ok_cmpT, ok_varE rfl, ok_call1, ok_varE rfl]
      simp only [needV, RV.val, ok_some]
      refine law_whole_ok (by omega) (by omega) ?_
      simp only [RV.d, cmp_nei, ok_some, decide_true, Bool.not_true, Bool.false_eq_true, if_false]
      rw [ok_notT, ok_chainT, ok_binE, ok_varE rfl, ok_idxE, ok_varE rfl, ok_litE]
      refine ok_idxT (d := .int e) rfl ?_
      have q0 := Int.mul_ediv_add_emod c e
      have q1 := Int.emod_nonneg c (show e ≠ 0 by omega)
      have q2 := Int.emod_lt_of_pos c (show 0 < e by omega)
      have hq : (c / e).natAbs ≤ 2000000 := Nat.le_trans (Int.natAbs_ediv_le_natAbs c e) e3
      simp only [RV.d, litD, mul_i (a := c / e) (b := e) (small_i (by omega)) (small_i (by omega)), ok_some]
      rw [ok_idxE, ok_varE rfl, ok_litE]
      refine ok_idxT (d := .int c) rfl ?_
      have c1 : c / e * e ≤ c := by rw [Int.mul_comm]; omega
      have c2 : c < (c / e + 1) * e := by rw [Int.mul_comm, Int.mul_add]; omega
      simp only [RV.d, cmpD, c1, decide_true, ok_some, if_true]
      rw [ok_binE, ok_binE, ok_varE rfl, ok_litE]
      simp only [RV.d, litD, add_i, ok_some]
      rw [ok_idxE, ok_varE rfl, ok_litE]
      refine ok_idxT (d := .int e) rfl ?_
      simp only [RV.d, mul_i (a := c / e + 1) (b := e) (small_i (by omega)) (small_i (by omega)), ok_some, c2, decide_true, Bool.not_true, Bool.false_eq_true, if_false]
      rw [oks_nil]
      simp only []
      rw [oks_cons]
      refine inner_ok (k := 8) (n := 1) ⟨c, e, rfl, e1, e2, e3⟩ F8 t9 fun x7 x8 => ?_
      simp only []
      rw [oks_nil]
      exact ⟨fun d hd => hr d (List.mem_cons_of_mem _ hd), _, _, _, rfl⟩
    · rintro ρ μ4 ⟨-, x6, x7, x8, rfl⟩
      simp only []
      rw [oks_cons]
      simp only [evalS, oks_stE, evalE, ok_pure, oks_rt, rtV, litD]
  cases kk with
  | true =>
    rw [if_pos rfl]
    refine ok_tupE ?_
    rw [ok_es, ok_varE rfl]
    simp only [needV, RV.val, ok_some]
    rw [ok_es, ok_binE, ok_varE rfl, ok_litE]
    simp only [RV.d, litD, add_i, ok_some, needV, RV.val]
    rw [ok_es0]
    have := hkk rfl
    exact ⟨small_line (by simp), _, rfl, fin _ ⟨_, _, rfl, by omega, by omega, a1⟩⟩
  | false =>
    rw [if_neg Bool.false_ne_true]
    refine ok_tupE ?_
    rw [ok_es, ok_litE]
    simp only [needV, RV.val, ok_some, litD]
    rw [ok_es, ok_litE]
    simp only [needV, RV.val, ok_some, litD]
    rw [ok_es0]
    exact ⟨small_line (by decide), _, rfl, fin _ ⟨_, _, rfl, by omega, by omega, by decide⟩⟩
theorem ev (ns : List Int) (h : ns.length ≤ 63) : Says pg 10 7 ns := by
  obtain ⟨rv, μ, e, rfl⟩ := law_ok h
  exact ⟨μ, e⟩
end Q
namespace Q
open PySem L2 J
abbrev lawRow : PySem.W.OpenRow := PySem.W.OpenLaw.row PySem.Challenge.rw_dueworth_k04_less_and_whole
abbrev theHook : PySem.W.Hook := He.hookX 6 pg.fa pg.fnD [] [] pg.ex
def seen (s : PySem.W.SharedT) : He.AlX := He.obsX 6 pg.fa pg.fnD [] [] pg.ex (HandSHeadRun.getT s)
theorem seen_eq (s : PySem.W.SharedT) : seen s = theHook.obs s.abs := He.obsX_eq (HandSHeadRun.getT_eq s)
def topNames : List PySem.Str := ["less", "whole", "_law_deal", "_law_draw", "_law_lowest", "_law_fraction", "_law_whole"]
theorem topRun (w : World) : HandSHeadRun.RunEq lawRow (PySem.W.view lawRow.prog [9]) theHook seen 800 topNames w := by
  intro os
  kernel_rfl
end Q
open PySem PySem.W PySem.Calls PyProof.Rows
theorem PySem.Challenge.cw_dueworth_k04_less_and_whole_holds : PySem.Challenge.rw_dueworth_k04_less_and_whole.Holds := by
  w_on; o_law
  refine HandSHeadRun.head_any (r := OpenLaw.row PySem.Challenge.rw_dueworth_k04_less_and_whole) (q := view (OpenLaw.row PySem.Challenge.rw_dueworth_k04_less_and_whole).prog [9]) (H := Q.theHook) (ob := Q.seen) (M := 800) (loose := Q.topNames)
    (d := HandSHeadRun.topDef (OpenLaw.row PySem.Challenge.rw_dueworth_k04_less_and_whole).prog 9) (kwd := []) Q.seen_eq
    (by kernel_rfl) (fun s => by kernel_rfl) Q.topRun (by kernel_rfl) (by kernel_rfl) (by kernel_rfl) (by rfl) (by first | assumption | decide +kernel) (by decide +kernel) ⟨rfl, rfl, rfl, rfl, rfl, by decide +kernel⟩ ?hw ?hc
  case hw => w_witness2
  case hc =>
    refine L2.walk_ofE (l := PySem.Challenge.rw_dueworth_k04_less_and_whole) (n := 63) (k := 10) (x := "_law_script") (CX := L2.CX0) rfl (by decide) (by kernel_rfl) ⟨rfl, by decide, by decide⟩ ?F (fun _ _ _ _ z => z)
    intro w mg fa h Y G hmg0
    obtain ⟨K, KX, c⟩ := Y
    have hmg : mg ("law" : PySem.Str) = some (.ref fa) := by
      have e : (HandSHeadRun.topDef (OpenLaw.row PySem.Challenge.rw_dueworth_k04_less_and_whole).prog 9).name = ("law" : PySem.Str) := by kernel_rfl
      rw [← e]
      exact hmg0
    exact J.law_F (p := Q.pg) (n := 60) (L := 7) (d := Q.d_law) (P := (PySem.Challenge.rw_dueworth_k04_less_and_whole).prog) KX G c Q.okAll Q.binds rfl rfl hmg Q.ev
